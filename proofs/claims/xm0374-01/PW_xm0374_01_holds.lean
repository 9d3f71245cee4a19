import PyProof.Rows.All
import Wide.All
import OpenK.AllK
import Wide.FinOn
import Lean
import PySem.Challenge.RW_xm0374_01
set_option compiler.extract_closed false
open PySem PySem.W PyProof.Rows
set_option maxRecDepth 100000
set_option Elab.async false
namespace Mine

/-! the head: the top's run, by the kernel, over a tree of objects, the library's quick twins in the machine's place -/

noncomputable def runT (p : Program) (w : World) (n₀ : Nat) (ann : Option Value) : Nat → SharedT → Thread → Option SharedT
  | 0, _, _ => none
  | n + 1, s, t => match through t with
    | true => some s
    | false => match PySem.W.Fast.tw6613529449190102663 n₀ ann t with
      | false => none
      | true => match PySem.W.Fast.tw10156331382660048174 (PySem.W.Fast.tw11892475500146522536 PySem.W.Fast.tw14364793385576792824) p w s t with
        | some (s', t') => runT p w n₀ ann n s' t'
        | none => none

theorem runT_spec {p : Program} {w : World} {n₀ : Nat} {ann : Option Value} : ∀ (n : Nat) (s s' : SharedT) (t : Thread),
    runT p w n₀ ann n s t = some s' → topRun treeTable p w n₀ ann n s.abs t = some s'.abs
  | 0, _, _, _, h => by simp [runT] at h
  | n + 1, s, s', t, h => by
    unfold runT at h
    unfold topRun
    cases ht : through t with
    | true => rw [ht] at h; cases h; rfl
    | false =>
      rw [ht] at h
      rw [← PySem.W.Fast.te6613529449190102663, ← PySem.W.Fast.te10156331382660048174, ← PySem.W.Fast.te11892475500146522536, ← PySem.W.Fast.te14364793385576792824] at h
      cases hk : stepOk n₀ ann t with
      | false => rw [hk] at h; cases h
      | true =>
        rw [hk] at h
        cases hs : stepT (denote treeTable) p w s t with
        | none => rw [hs] at h; cases h
        | some r =>
          obtain ⟨s₂, t₂⟩ := r
          rw [hs] at h
          dsimp only
          rw [stepT_spec hs]
          exact runT_spec n _ _ _ h

noncomputable def treeOf : Nat → List Obj → BT → BT
  | _, [], t => t
  | n, o :: r, t => treeOf (n + 1) r (t.ins n o)
noncomputable def bootTree (P : Params) : BT := treeOf 0 (boot_heap P).objs.toList .nil
theorem bootTree_abs (P : Params) : absHeap (bootTree P) 11 {} = boot_heap P := by
  kernel_rfl

abbrev prog : Program := PySem.Challenge.pw_xm0374_01
noncomputable def view1 : Program := view prog [76]
noncomputable def loose1 : List Str := prog.boundNames.filter fun n => !(n == ("law" : Str))

theorem opens (w : World) : (fencedOpening treeTable prog w 12000).map (fun s => (s.heap, s.gens, s.drawn, s.toks)) = some (boot_heap w.params, Array.mk [], boot_drawn, boot_toks) :=
  boot_open (p := prog) (N := 12000) (by kernel_rfl) (by kernel_rfl) (fun s => by kernel_rfl) w

noncomputable abbrev looks {α : Type} (q : Program) (loose : List Str) (Xt : Shared → Bool) (Yf : Shared → α) (w : World) (s : Shared) :=
  (staticsOk (importedModules prog.main.body) (boot_heap w.params) s.heap && namesBound prog s.heap && gensDone s && laidKept (boot_heap w.params) s.heap,
   PySem.W.Fast.tw4187177175401517315 q loose (importedModules prog.main.body) Xt true s, Yf s)
theorem sizes (w : World) : ((boot_heap w.params).isNs mainGlobals && ((Array.mk [] : Array GenState).size == 0), (boot_heap w.params).objs.size, (boot_heap w.params).nsMap mainGlobals "__annotations__") = (true, 11, some (.ref 6)) := by
  kernel_rfl

theorem left_of {q : Program} {loose : List Str} {Xt : Shared → Bool} {α : Type} {Yf : Shared → α} {Ya : World → α}
    (h : ∀ (w : World) (os : OsState), (runT prog w 11 (some (.ref 6)) 12000 ⟨bootTree w.params, 11, {}, Array.mk [], boot_drawn, boot_toks, os⟩ (topStub prog)).map (fun s => looks q loose Xt Yf w s.abs) = some (true, openGood q loose, Ya w)) :
    LeftO prog q loose Xt Yf Ya 12000 := fun w => by
  obtain ⟨⟨h0, gs, d, k, os⟩, e, e'⟩ := Option.map_eq_some_iff.mp (opens w)
  obtain ⟨rfl, rfl, rfl, rfl⟩ : h0 = boot_heap w.params ∧ gs = Array.mk [] ∧ d = boot_drawn ∧ k = boot_toks := by simpa using e'
  obtain ⟨z1, z2, z3⟩ : _ ∧ _ ∧ _ := by simpa only [Prod.mk.injEq] using sizes w
  obtain ⟨s, hs, hl⟩ := Option.map_eq_some_iff.mp (h w os)
  have r := runT_spec _ _ _ _ hs
  have hl' := hl
  unfold looks at hl'
  rw [← PySem.W.Fast.te4187177175401517315] at hl'
  obtain ⟨l1, l2, l3⟩ : _ ∧ _ ∧ _ := by simpa only [Prod.mk.injEq] using hl'
  have ha : (SharedT.mk (bootTree w.params) 11 {} (Array.mk []) boot_drawn boot_toks os).abs = ⟨boot_heap w.params, Array.mk [], boot_drawn, boot_toks, os⟩ := by
    unfold SharedT.abs; dsimp only; rw [bootTree_abs]
  rw [ha] at r
  have t : topFrom treeTable prog w 12000 ⟨boot_heap w.params, Array.mk [], boot_drawn, boot_toks, os⟩ = some s.abs := by
    unfold topFrom
    dsimp only
    rw [z1, z2, z3, r]
    show (match staticsOk (importedModules prog.main.body) (boot_heap w.params) s.abs.heap && namesBound prog s.abs.heap && gensDone s.abs && laidKept (boot_heap w.params) s.abs.heap with | true => _ | false => _) = _
    rw [l1]
  unfold openEnds
  rw [e]
  show (topFrom treeTable prog w 12000 _).map _ = _
  rw [t]
  exact congrArg some (Prod.ext l2 l3)

end Mine
open PySem PySem.W PyProof.Rows
set_option maxRecDepth 100000
set_option Elab.async false
set_option maxHeartbeats 4000000
namespace Mine
theorem said_q : PySem.W.Fast.tw9446332074065402090 PySem.Challenge.rw_xm0374_01 = true := by kernel_rfl
theorem said : PySem.Challenge.rw_xm0374_01.wellSaid = true :=
  (congrFun PySem.W.Fast.te9446332074065402090 PySem.Challenge.rw_xm0374_01).trans said_q
def LeftH (H : Hook) (w : World) : Prop := ∀ os, (runT prog w 11 (some (.ref 6)) 12000 ⟨bootTree w.params, 11, {}, Array.mk [], boot_drawn, boot_toks, os⟩ (topStub prog)).map (fun s => looks view1 loose1 (fun _ => true) (Hook.obs H) w s.abs) = some (true, openGood view1 loose1, Hook.val H w)
abbrev lawRow : OpenRow := PySem.Challenge.rw_xm0374_01.row
theorem oks : (chainsOk view1 && opensWell lawRow.prog && (frees lawRow.toRowW && lawRow.within.isEmpty)) = true := by decide +kernel
theorem head_of (H : Hook) {d : DefRec} {kwd : List (Str × Expr)} (k1 : lawRow.wellSaid = true) (hdef : defOf view1 lawRow.name = some (d, kwd)) (hp : lawRow.prog.theDef lawRow.name = some (d.params, d.body, d.scope)) (hk : kwWritten? d.params.kwonlyargs d.params.kw_defaults = some kwd)
    (hw : lawRow.toRowW.promised) (hc : (∀ w : World, LeftH H (w.withFollow "special-get-raises" false)) ∧ (∀ w : World, LeftH H (w.withFollow "special-get-raises" true)) ∧ WalkO view1 loose1 (fun _ _ => True) H.says lawRow.toRowW d kwd fun f vs => PySem.call f vs) : lawRow.Holds :=
  holds_open (r := lawRow) (q := view1) (loose := loose1) (Xt := fun _ => true) (XP := fun _ _ => True) (Yf := H.obs) (Ya := H.val) (YP := H.says) (N := 12000)
    (left_of (byRow2 "special-get-raises" (P := LeftH H) hc.1 hc.2.1))
    H.of H.keeps (fun _ _ => trivial) (fun _ _ _ _ _ => trivial) hdef hp hk (fun s _ => recFacts_nil rfl) (by rfl) k1 oks ⟨rfl, rfl, rfl, rfl, rfl, by decide +kernel⟩ hw hc.2.2
local macro_rules | `(tactic| o_law) => `(tactic| refine holds_law said fun said => ?_)
local macro_rules | `(tactic| o_head $H) => `(tactic| refine head_of $H (by assumption) (by rfl) (by rfl) (by rfl) ?hw ?hc)
open_top hd for PySem.Challenge.rw_xm0374_01
end Mine
open PySem PySem.W PyProof.Rows
set_option maxRecDepth 100000
set_option Elab.async false
set_option maxHeartbeats 4000000
namespace Mine
def HookOf {K : Params → Frag} {as : List Addr} {e : ∀ P, as = (K P).map (·.1)} {A B : Prop} {d kwd run R}
  (_ : (A ∧ B ∧ WalkO view1 loose1 (fun _ _ => True) (kHook K as e).says lawRow.toRowW d kwd run) → R) : Hook := kHook K as e
noncomputable abbrev H1 : Hook := HookOf hd
noncomputable abbrev K : Params → Frag := hd.heap_1
theorem left_f (w : World) : LeftH H1 (w.withFollow "special-get-raises" false) := fun os => by kernel_rfl
theorem left_t (w : World) : LeftH H1 (w.withFollow "special-get-raises" true) := fun os => by kernel_rfl
end Mine
open PySem PySem.W PySem.Calls PyProof.Rows
set_option maxRecDepth 100000
set_option Elab.async false
set_option maxHeartbeats 4000000
set_option linter.unusedVariables false
namespace Mine

/-! values as trees -/
inductive D where
  | int (i : Int) | bool (b : Bool) | none | raw (v : Value)
  | tup (ds : List D) | lst (ds : List D) | inst (C : Addr) (ns : List Str) (ds : List D)
  | mlst (a : Addr) | minst (C x dx : Addr) | rng (a b c : Int)

mutual
noncomputable def At (X : Addr → Prop) (h : Heap) : D → Value → Prop
  | .int i, v => ∃ t, v = .int i t
  | .bool b, v => v = .bool b
  | .none, v => v = .none
  | .raw u, v => v = u
  | .tup ds, v => ∃ a vs, v = .ref a ∧ ¬ X a ∧ IsTup h a (List.toArray vs) ∧ Ats X h ds vs
  | .lst ds, v => ∃ a vs, v = .ref a ∧ ¬ X a ∧ h.PlainList a (List.toArray vs) ∧ Ats X h ds vs
  | .inst C ns ds, v => ∃ x dx m, v = .ref x ∧ ¬ X x ∧ h.get? x = some (instObj C dx) ∧ ¬ X dx ∧ h.Ns dx m ∧ Fs X h ds ns m ∧ (∀ n, n ∉ ns → m n = .none)
  | .mlst a, v => v = .ref a
  | .minst C x dx, v => v = .ref x ∧ ¬ X x ∧ h.get? x = some (instObj C dx)
  | .rng a b c, v => ∃ r t u w, v = .ref r ∧ ¬ X r ∧ IsRange h r a b c t u w
noncomputable def Ats (X : Addr → Prop) (h : Heap) : List D → List Value → Prop
  | [], vs => vs = []
  | d :: ds, vs => ∃ v r, vs = v :: r ∧ At X h d v ∧ Ats X h ds r
noncomputable def Fs (X : Addr → Prop) (h : Heap) : List D → List Str → (Str → Option Value) → Prop
  | [], ns, _ => ns = []
  | d :: ds, ns, m => ∃ n r, ns = n :: r ∧ (∃ v, m n = some v ∧ At X h d v) ∧ Fs X h ds r m
end

/-- all that is not mutable stays so, and as it is -/
noncomputable def Mv (X : Addr → Prop) (h : Heap) (X' : Addr → Prop) (h' : Heap) : Prop := ∀ a o, ¬ X a → h.get? a = some o → ¬ X' a ∧ h'.get? a = some o
theorem Mv.refl (X : Addr → Prop) (h : Heap) : Mv X h X h := fun _ _ n e => ⟨n, e⟩
theorem Mv.trans {X₁ X₂ X₃ : Addr → Prop} {h₁ h₂ h₃ : Heap} (a : Mv X₁ h₁ X₂ h₂) (b : Mv X₂ h₂ X₃ h₃) : Mv X₁ h₁ X₃ h₃ := fun x o n e => b x o (a x o n e).1 (a x o n e).2

theorem IsTup.at' {h h' : Heap} {a : Addr} {items : Array Value} (x : IsTup h a items) (e : ∀ o, h.get? a = some o → h'.get? a = some o) : IsTup h' a items := let ⟨o, ho, r⟩ := x; ⟨o, e _ ho, r⟩

mutual
theorem At.mv {X X' : Addr → Prop} {h h' : Heap} (M : Mv X h X' h') : ∀ {d : D} {v : Value}, At X h d v → At X' h' d v
  | .int _, _, k | .bool _, _, k | .none, _, k | .raw _, _, k | .mlst _, _, k => k
  | .tup ds, _, k => by
    obtain ⟨a, vs, e, n, t, r⟩ := k
    obtain ⟨o, ho, r'⟩ := t
    exact ⟨a, vs, e, (M a o n ho).1, ⟨o, (M a o n ho).2, r'⟩, Ats.mv M r⟩
  | .lst ds, _, k => by
    obtain ⟨a, vs, e, n, ⟨m, ho⟩, r⟩ := k
    exact ⟨a, vs, e, (M a _ n ho).1, ⟨m, (M a _ n ho).2⟩, Ats.mv M r⟩
  | .inst C ns ds, _, k => by
    obtain ⟨x, dx, m, e, n, hx, n', hm, f, z⟩ := k
    obtain ⟨o, es, ep, ho, r⟩ := hm
    exact ⟨x, dx, m, e, (M x _ n hx).1, (M x _ n hx).2, (M dx o n' ho).1, ⟨o, es, ep, (M dx o n' ho).2, r⟩, Fs.mv M f, z⟩
  | .minst C x dx, _, k => ⟨k.1, (M x _ k.2.1 k.2.2).1, (M x _ k.2.1 k.2.2).2⟩
  | .rng a b c, _, ⟨r, t, u, w, e, n, i⟩ => ⟨r, t, u, w, e, (M r _ n i).1, (M r _ n i).2⟩
theorem Ats.mv {X X' : Addr → Prop} {h h' : Heap} (M : Mv X h X' h') : ∀ {ds : List D} {vs : List Value}, Ats X h ds vs → Ats X' h' ds vs
  | [], _, k => k
  | _ :: _, _, k => by
    obtain ⟨v, r, e, a, b⟩ := k
    exact ⟨v, r, e, At.mv M a, Ats.mv M b⟩
theorem Fs.mv {X X' : Addr → Prop} {h h' : Heap} (M : Mv X h X' h') : ∀ {ds : List D} {ns : List Str} {m : Str → Option Value}, Fs X h ds ns m → Fs X' h' ds ns m
  | [], _, _, k => k
  | _ :: _, _, _, k => by
    obtain ⟨n, r, e, ⟨v, hv, a⟩, b⟩ := k
    exact ⟨n, r, e, ⟨v, hv, At.mv M a⟩, Fs.mv M b⟩
end

theorem Ats.length {X : Addr → Prop} {h : Heap} : ∀ {ds : List D} {vs : List Value}, Ats X h ds vs → vs.length = ds.length
  | [], _, k => by rw [show _ = [] from k]; rfl
  | _ :: _, _, k => by
    obtain ⟨v, r, rfl, _, b⟩ := k
    rw [List.length_cons, List.length_cons, Ats.length b]
theorem Ats.get {X : Addr → Prop} {h : Heap} : ∀ {ds : List D} {vs : List Value} {i : Nat} {d : D}, Ats X h ds vs → ds[i]? = some d → ∃ v, vs[i]? = some v ∧ At X h d v
  | [], _, _, _, _, e => by simp at e
  | d₀ :: ds, _, 0, d, k, e => by
    obtain ⟨v, r, rfl, a, _⟩ := k
    simp at e; subst e
    exact ⟨v, rfl, a⟩
  | d₀ :: ds, _, i + 1, d, k, e => by
    obtain ⟨v, r, rfl, _, b⟩ := k
    exact Ats.get (i := i) b (by simpa using e)
theorem Ats.append {X : Addr → Prop} {h : Heap} : ∀ {ds ds' : List D} {vs vs' : List Value}, Ats X h ds vs → Ats X h ds' vs' → Ats X h (ds ++ ds') (vs ++ vs')
  | [], _, _, _, k, k' => by rw [show _ = [] from k]; exact k'
  | _ :: _, _, _, _, k, k' => by
    obtain ⟨v, r, rfl, a, b⟩ := k
    exact ⟨v, r ++ _, rfl, a, Ats.append b k'⟩
theorem Ats.take {X : Addr → Prop} {h : Heap} : ∀ {ds : List D} {vs : List Value} (n : Nat), Ats X h ds vs → Ats X h (ds.take n) (vs.take n)
  | [], _, _, k => by rw [show _ = [] from k, List.take_nil, List.take_nil]; exact (rfl : ([] : List Value) = [])
  | _ :: _, _, 0, _ => (rfl : ([] : List Value) = [])
  | _ :: _, _, n + 1, k => by
    obtain ⟨v, r, rfl, a, b⟩ := k
    exact ⟨v, _, rfl, a, Ats.take n b⟩
theorem Ats.drop {X : Addr → Prop} {h : Heap} : ∀ {ds : List D} {vs : List Value} (n : Nat), Ats X h ds vs → Ats X h (ds.drop n) (vs.drop n)
  | [], _, _, k => by rw [show _ = [] from k, List.drop_nil, List.drop_nil]; exact (rfl : ([] : List Value) = [])
  | _ :: _, _, 0, k => by simpa using k
  | _ :: _, _, n + 1, k => by
    obtain ⟨v, r, rfl, a, b⟩ := k
    exact Ats.drop n b
theorem Ats.one {X : Addr → Prop} {h : Heap} {d : D} {v : Value} (k : At X h d v) : Ats X h [d] [v] := ⟨v, [], rfl, k, rfl⟩

/-- a field's place -/
inductive FLk (n : Str) : List Str → List D → D → Prop
  | here {ns ds d} : FLk n (n :: ns) (d :: ds) d
  | there {m ns d' ds d} : FLk n ns ds d → FLk n (m :: ns) (d' :: ds) d
theorem Fs.get {X : Addr → Prop} {h : Heap} {n : Str} {m : Str → Option Value} {ns : List Str} {ds : List D} {d : D} (l : FLk n ns ds d) (f : Fs X h ds ns m) : ∃ v, m n = some v ∧ At X h d v := by
  induction l with
  | here =>
    obtain ⟨n', r, e, a, _⟩ := f
    cases e; exact a
  | there _ ih =>
    obtain ⟨n', r, e, _, b⟩ := f
    cases e; exact ih b
inductive FUp (n : Str) (d : D) : List Str → List D → List D → Prop
  | here {ns ds d'} : FUp n d (n :: ns) (d' :: ds) (d :: ds)
  | there {m ns d' ds ds'} : FUp n d ns ds ds' → FUp n d (m :: ns) (d' :: ds) (d' :: ds')

/-! mutable objects -/
set_option genInjectivity false in
set_option genSizeOf false in
inductive Mu where
  | lst (ds : List D) | dict (ns : List Str) (ds : List D)
  | itL (i : Nat) (ds : List D) | itT (ds : List D) | itR (x left step : Int) | enum (b : Addr) (i : Nat) | frame
noncomputable def MAt (X : Addr → Prop) (h : Heap) (a : Addr) : Mu → Prop
  | .lst ds => ∃ vs, h.PlainList a (List.toArray vs) ∧ Ats X h ds vs
  | .dict ns ds => ∃ m, h.Ns1 a m ∧ Fs X h ds ns m ∧ (∀ n, n ∉ ns → m n = .none) ∧ ns.Nodup
  | .itL i ds => ∃ l vs, h.IsListIter a l i ∧ ¬ X l ∧ h.PlainList l (List.toArray vs) ∧ Ats X h ds (vs.drop i)
  | .itT ds => ∃ l vs i, h.IsTupleIter a l i ∧ ¬ X l ∧ IsTup h l (List.toArray vs) ∧ Ats X h ds (vs.drop i)
  | .itR x left step => IsRangeIter h a x left step
  | .enum b i => ∃ old, IsEnum h a b i old
  | .frame => ∃ m, h.Ns a m
theorem MAt.mv {X X' : Addr → Prop} {h h' : Heap} (M : Mv X h X' h') {a : Addr} (e : ∀ o, h.get? a = some o → h'.get? a = some o) : ∀ {u : Mu}, MAt X h a u → MAt X' h' a u
  | .lst _, ⟨vs, l, k⟩ => ⟨vs, l.at e, k.mv M⟩
  | .dict _ _, ⟨m, l, k, z⟩ => ⟨m, l.at e, k.mv M, z⟩
  | .itL _ _, ⟨l, vs, t, n, ⟨m, p⟩, k⟩ => ⟨l, vs, t.at e, (M l _ n p).1, ⟨m, (M l _ n p).2⟩, k.mv M⟩
  | .itT _, ⟨l, vs, i, t, n, ⟨o, p, q⟩, k⟩ => ⟨l, vs, i, t.at e, (M l _ n p).1, ⟨o, (M l _ n p).2, q⟩, k.mv M⟩
  | .itR _ _ _, k => e _ k
  | .enum _ _, ⟨old, k⟩ => ⟨old, e _ k⟩
  | .frame, ⟨m, k⟩ => ⟨m, k.at' e⟩
theorem MAt.live {X : Addr → Prop} {h : Heap} {a : Addr} : ∀ {u : Mu}, MAt X h a u → ∃ o, h.get? a = some o
  | .lst _, ⟨_, ⟨_, ho⟩, _⟩ => ⟨_, ho⟩
  | .dict _ _, ⟨_, ⟨o, _, _, ho, _⟩, _⟩ => ⟨o, ho⟩
  | .itL _ _, ⟨_, _, ⟨o, ho, _⟩, _⟩ => ⟨o, ho⟩
  | .itT _, ⟨_, _, _, ⟨o, ho, _⟩, _⟩ => ⟨o, ho⟩
  | .itR _ _ _, k => ⟨_, k⟩
  | .enum _ _, ⟨_, k⟩ => ⟨_, k⟩
  | .frame, ⟨_, ⟨o, _, _, k, _⟩⟩ => ⟨o, k⟩
/-! the ground: what stands behind the top -/
set_option genInjectivity false in
set_option genSizeOf false in
structure Gl where
  w : World
  B : Heap
  os : OsState
  mg : Str → Option Value
  mb : Str → Option Value
  kx : (K w.params).In B
  top : TopRead view1 (looseW view1 loose1) mg mb B
noncomputable abbrev Gl.M (g : Gl) : Model := model prog g.w
noncomputable abbrev Gl.K (g : Gl) : Frag := Mine.K g.w.params

structure Base (g : Gl) (X : Addr → Prop) (s : Shared) : Prop where
  keep : ∀ a o, g.B.get? a = some o → ¬ X a ∧ s.heap.get? a = some o
  gens : s.gens = #[]
  os : s.os = g.os
  live : ∀ a, X a → ∃ o, s.heap.get? a = some o
theorem Base.kx {g : Gl} {X : Addr → Prop} {s : Shared} (b : Base g X s) : g.K.In s.heap := g.kx.keeps fun a o e => (b.keep a o e).2
theorem Base.stays {g : Gl} {X : Addr → Prop} {s : Shared} (b : Base g X s) : ∀ a o, g.B.get? a = some o → s.heap.get? a = some o := fun a o e => (b.keep a o e).2
theorem Base.top {g : Gl} {X : Addr → Prop} {s : Shared} (b : Base g X s) : TopRead view1 (looseW view1 loose1) g.mg g.mb s.heap := g.top.keeps b.stays

structure Room (n : Nat) (A : Around) : Prop where
  handled : A.handled = Option.none
  depth : A.depth + n ≤ 990
  units : A.units + 8 * n ≤ 9800

set_option genInjectivity false in
set_option genSizeOf false in
structure Ctx where
  env : Env
  A : Around
  n : Nat
  hI : Heap
  P : Addr → Prop
  Xc : Addr → Prop
structure CtxOk (c : Ctx) : Prop where
  kind : c.env.scope.kind = .function
  globals : c.env.globals = mainGlobals
  builtins : c.env.builtins = builtinsNs
  room : Room c.n c.A
  xlive : ∀ a, c.Xc a → ∃ o, c.hI.get? a = some o
  px : ∀ a, c.P a → c.Xc a

set_option genInjectivity false in
set_option genSizeOf false in
structure St where
  loc : List (Str × Option D)
  cel : List (Str × Addr × Option D)
  mu : List (Addr × Mu)

noncomputable def own (c : Ctx) (st : St) : List Addr := c.env.locals :: (st.cel.map (·.2.1) ++ st.mu.map (·.1))
noncomputable def okName (n : Str) : Bool := !(n == ("__debug__" : Str))

structure Ok (g : Gl) (c : Ctx) (X : Addr → Prop) (st : St) (s : Shared) : Prop where
  cok : CtxOk c
  base : Base g X s
  kept : ∀ a o, c.hI.get? a = some o → ¬ c.P a → s.heap.get? a = some o
  xc : ∀ a, c.Xc a → X a
  nodup : (own c st).Nodup
  mine : ∀ a ∈ own c st, X a ∧ (c.P a ∨ c.hI.get? a = Option.none)
  names : (st.loc.map (·.1)).Nodup
  loc : ∃ m, s.heap.Ns c.env.locals m ∧ ∀ p ∈ st.loc, c.env.kindOf p.1 = some .local ∧ okName p.1 = true ∧ ∀ d, p.2 = some d → ∃ v, m p.1 = some v ∧ At X s.heap d v
  cel : ∀ p ∈ st.cel, c.env.kindOf p.1 = some .cell ∧ okName p.1 = true ∧ c.env.cells.lookup p.1 = some p.2.1 ∧ ∃ o v, s.heap.get? p.2.1 = some o ∧ o.data = .cell v ∧ ∀ d, p.2.2 = some d → ∃ v', v = some v' ∧ At X s.heap d v'
  mu : ∀ p ∈ st.mu, MAt X s.heap p.1 p.2

/-- a state that came of another: only tokens and new immutable objects -/
theorem Ok.grow {g : Gl} {c : Ctx} {X : Addr → Prop} {st : St} {s s' : Shared} (k : Ok g c X st s) (hk : ∀ a o, s.heap.get? a = some o → s'.heap.get? a = some o) (hg : s'.gens = s.gens) (ho : s'.os = s.os) :
    Ok g c X st s' ∧ Mv X s.heap X s'.heap := by
  have M : Mv X s.heap X s'.heap := fun a o n e => ⟨n, hk a o e⟩
  refine ⟨⟨k.cok, ⟨fun a o e => ⟨(k.base.keep a o e).1, hk _ _ (k.base.keep a o e).2⟩, hg.trans k.base.gens, ho.trans k.base.os, fun a h => let ⟨o, e⟩ := k.base.live a h; ⟨o, hk _ _ e⟩⟩,
    fun a o e n => hk _ _ (k.kept a o e n), k.xc, k.nodup, k.mine, k.names, ?_, ?_, fun p hp => (k.mu p hp).mv M fun o e => hk _ _ e⟩, M⟩
  · obtain ⟨m, hm, r⟩ := k.loc
    exact ⟨m, hm.at' fun o e => hk _ _ e, fun p hp => ⟨(r p hp).1, (r p hp).2.1, fun d e => let ⟨v, a, b⟩ := (r p hp).2.2 d e; ⟨v, a, b.mv M⟩⟩⟩
  · intro p hp
    obtain ⟨a, b, c', o, v, d, e, f⟩ := k.cel p hp
    exact ⟨a, b, c', o, v, hk _ _ d, e, fun d' q => let ⟨v', x, y⟩ := f d' q; ⟨v', x, y.mv M⟩⟩

set_option genInjectivity false in
set_option genSizeOf false in
inductive Fl where
  | next | brk | cont | ret (d : D)
noncomputable def FlAt (X : Addr → Prop) (h : Heap) : Fl → Flow → Prop
  | .next, f => f = .next
  | .brk, f => f = .brk
  | .cont, f => f = .cont
  | .ret d, f => ∃ v, f = .ret v ∧ At X h d v

noncomputable abbrev noE : Value → Shared → Prop := fun _ _ => False

/-! what holds after a step -/
inductive Post (g : Gl) (c : Ctx) (X : Addr → Prop) (s : Shared) (Q : D → St → Prop) (v : Value) (s' : Shared) : Prop
  | mk (d : D) (st' : St) (X' : Addr → Prop) (k : Ok g c X' st' s') (m : Mv X s.heap X' s'.heap) (a : At X' s'.heap d v) (q : Q d st')
inductive PostB (g : Gl) (c : Ctx) (X : Addr → Prop) (s : Shared) (Q : Bool → St → Prop) (b : Bool) (s' : Shared) : Prop
  | mk (st' : St) (X' : Addr → Prop) (k : Ok g c X' st' s') (m : Mv X s.heap X' s'.heap) (q : Q b st')
inductive PostU (g : Gl) (c : Ctx) (X : Addr → Prop) (s : Shared) (Q : St → Prop) (u : Unit) (s' : Shared) : Prop
  | mk (st' : St) (X' : Addr → Prop) (k : Ok g c X' st' s') (m : Mv X s.heap X' s'.heap) (q : Q st')
inductive PostF (g : Gl) (c : Ctx) (X : Addr → Prop) (s : Shared) (Q : Fl → St → Prop) (f : Flow) (s' : Shared) : Prop
  | mk (r : Fl) (st' : St) (X' : Addr → Prop) (k : Ok g c X' st' s') (m : Mv X s.heap X' s'.heap) (a : FlAt X' s'.heap r f) (q : Q r st')
inductive PostL (g : Gl) (c : Ctx) (X : Addr → Prop) (s : Shared) (n : Nat) (Q : List D → St → Prop) (vs : List Value) (s' : Shared) : Prop
  | mk (ds : List D) (st' : St) (X' : Addr → Prop) (k : Ok g c X' st' s') (m : Mv X s.heap X' s'.heap) (a : Ats X' s'.heap ds vs) (l : ds.length = n) (q : Q ds st')
/-- an expression's tree t from the state st -/
noncomputable def TW (g : Gl) (c : Ctx) (t : Sem Value) (st : St) (Q : D → St → Prop) : Prop :=
  ∀ X s, Ok g c X st s → wpAny g.M c.A t (Post g c X s Q) noE s
noncomputable abbrev EW (g : Gl) (c : Ctx) (e : Expr) (st : St) (Q : D → St → Prop) : Prop := TW g c (eval e c.env) st Q
noncomputable def BW (g : Gl) (c : Ctx) (e : Expr) (st : St) (Q : Bool → St → Prop) : Prop :=
  ∀ X s, Ok g c X st s → wpAny g.M c.A (isTrue e c.env (eval e c.env)) (PostB g c X s Q) noE s
noncomputable def LW (g : Gl) (c : Ctx) (es : List Expr) (st : St) (Q : List D → St → Prop) : Prop :=
  ∀ pos X s, Ok g c X st s → wpAny g.M c.A (spliced (backTo pos (starEach es c.env))) (PostL g c X s es.length Q) noE s
noncomputable def XW1 (g : Gl) (c : Ctx) (x : Stmt) (st : St) (Q : Fl → St → Prop) : Prop :=
  ∀ X s, Ok g c X st s → wpAny g.M c.A (exec x c.env) (PostF g c X s Q) noE s
noncomputable def XW (g : Gl) (c : Ctx) (xs : List Stmt) (st : St) (Q : Fl → St → Prop) : Prop :=
  ∀ X s, Ok g c X st s → wpAny g.M c.A (execs xs c.env) (PostF g c X s Q) noE s

section
variable {g : Gl} {c : Ctx} {st : St}
theorem TW.mono {t : Sem Value} {Q Q' : D → St → Prop} (h : TW g c t st Q) (q : ∀ d s, Q d s → Q' d s) : TW g c t st Q' :=
  fun X s k => wpAny_mono (h X s k) (fun _ _ ⟨d, st', X', a, b, e, f⟩ => ⟨d, st', X', a, b, e, q _ _ f⟩) fun _ _ z => z
theorem XW.mono {xs : List Stmt} {Q Q' : Fl → St → Prop} (h : XW g c xs st Q) (q : ∀ d s, Q d s → Q' d s) : XW g c xs st Q' :=
  fun X s k => wpAny_mono (h X s k) (fun _ _ ⟨d, st', X', a, b, e, f⟩ => ⟨d, st', X', a, b, e, q _ _ f⟩) fun _ _ z => z
theorem BW.mono {e : Expr} {Q Q' : Bool → St → Prop} (h : BW g c e st Q) (q : ∀ d s, Q d s → Q' d s) : BW g c e st Q' :=
  fun X s k => wpAny_mono (h X s k) (fun _ _ ⟨st', X', a, b, f⟩ => ⟨st', X', a, b, q _ _ f⟩) fun _ _ z => z

/-- the end of a step that only makes tokens or new objects -/
theorem Ok.stepped {X : Addr → Prop} {s s' : Shared} {d : D} {v : Value} {Q : D → St → Prop} (k : Ok g c X st s) (hk : ∀ a o, s.heap.get? a = some o → s'.heap.get? a = some o) (hg : s'.gens = s.gens) (ho : s'.os = s.os)
    (a : At X s'.heap d v) (q : Q d st) : Post g c X s Q v s' :=
  ⟨d, st, X, (k.grow hk hg ho).1, (k.grow hk hg ho).2, a, q⟩

theorem ew_int {i : Int} {n : Nat} {pos : Pos} {Q : D → St → Prop} (q : Q (.int i) st) : EW g c (.Constant (.int i) n pos) st Q :=
  fun X s k => wpAny_Constant_int (k.stepped (d := .int i) (fun _ _ e => e) rfl rfl ⟨_, rfl⟩ q)
theorem ew_bool {i : Bool} {n : Nat} {pos : Pos} {Q : D → St → Prop} (q : Q (.bool i) st) : EW g c (.Constant (.bool i) n pos) st Q :=
  fun X s k => wpAny_Constant_bool (k.stepped (d := .bool i) (fun _ _ e => e) rfl rfl rfl q)
theorem ew_none {n : Nat} {pos : Pos} {Q : D → St → Prop} (q : Q .none st) : EW g c (.Constant .none n pos) st Q :=
  fun X s k => wpAny_Constant_none (k.stepped (d := .none) (fun _ _ e => e) rfl rfl rfl q)

inductive Lk (n : Str) : List (Str × Option D) → D → Prop
  | here {l d} : Lk n ((n, some d) :: l) d
  | there {p l d} : Lk n l d → Lk n (p :: l) d
theorem Lk.mem {n : Str} {l : List (Str × Option D)} {d : D} (h : Lk n l d) : (n, some d) ∈ l := by
  induction h with
  | here => exact .head _
  | there _ ih => exact .tail _ ih
inductive LkC (n : Str) : List (Str × Addr × Option D) → D → Prop
  | here {l a d} : LkC n ((n, a, some d) :: l) d
  | there {p l d} : LkC n l d → LkC n (p :: l) d
theorem LkC.mem {n : Str} {l : List (Str × Addr × Option D)} {d : D} (h : LkC n l d) : ∃ a, (n, a, some d) ∈ l := by
  induction h with
  | here => exact ⟨_, .head _⟩
  | there _ ih => let ⟨a, x⟩ := ih; exact ⟨a, .tail _ x⟩

theorem ew_loc {x : Str} {pos : Pos} {d : D} {Q : D → St → Prop} (l : Lk x st.loc d) (q : Q d st) : EW g c (.Name x pos) st Q := fun X s k => by
  obtain ⟨m, hm, r⟩ := k.loc
  obtain ⟨hk, hn, hv⟩ := r _ l.mem
  obtain ⟨v, e, a⟩ := hv d rfl
  exact wpAny_Name (wpAny_loadName_local k.cok.kind hk hm e (k.stepped (fun _ _ e => e) rfl rfl a q)) (by simpa [okName] using hn)
theorem ew_cel {x : Str} {pos : Pos} {d : D} {Q : D → St → Prop} (l : LkC x st.cel d) (q : Q d st) : EW g c (.Name x pos) st Q := fun X s k => by
  obtain ⟨a, hm⟩ := l.mem
  obtain ⟨hk, hn, hc, o, v, ho, hd, hv⟩ := k.cel _ hm
  obtain ⟨v', rfl, at'⟩ := hv d rfl
  exact wpAny_Name (wpAny_loadName_cell k.cok.kind hk hc ⟨o, ho, hd⟩ (k.stepped (fun _ _ e => e) rfl rfl at' q)) (by simpa [okName] using hn)
theorem ew_glob {x : Str} {pos : Pos} {v : Value} {Q : D → St → Prop} (e : g.mg x = some v) (hk : c.env.kindOf x = some .globalImplicit) (hn : okName x = true) (q : Q (.raw v) st) : EW g c (.Name x pos) st Q := fun X s k =>
  Name_function_global k.cok.kind hk (loadGlobal_global (by rw [k.cok.globals]; exact k.base.top.g) e (k.stepped (d := .raw v) (fun _ _ e => e) rfl rfl rfl q)) (by simpa [okName] using hn)
theorem ew_globInt {x : Str} {pos : Pos} {i : Int} {t : Tok} {Q : D → St → Prop} (e : g.mg x = some (.int i t)) (hk : c.env.kindOf x = some .globalImplicit) (hn : okName x = true) (q : Q (.int i) st) : EW g c (.Name x pos) st Q := fun X s k =>
  Name_function_global k.cok.kind hk (loadGlobal_global (by rw [k.cok.globals]; exact k.base.top.g) e (k.stepped (d := .int i) (fun _ _ e => e) rfl rfl ⟨t, rfl⟩ q)) (by simpa [okName] using hn)
theorem ew_builtin {x : Str} {pos : Pos} {v : Value} {Q : D → St → Prop} (e : g.mg x = Option.none) (hv : bootBuiltins x = some v) (hd : (x == ("__name__" : Str)) = false) (hk : c.env.kindOf x = some .globalImplicit) (hn : okName x = true) (q : Q (.raw v) st) : EW g c (.Name x pos) st Q := fun X s k =>
  Name_function_global k.cok.kind hk (loadGlobal_builtin (by rw [k.cok.globals]; exact k.base.top.g) e (by rw [k.cok.builtins]; exact k.base.top.b) ((k.base.top.builtins x (by simpa using hd)).trans hv) (k.stepped (d := .raw v) (fun _ _ e => e) rfl rfl rfl q)) (by simpa [okName] using hn)

end
/-! what is asked after a part: named, so that it stands once -/
noncomputable abbrev KE (g : Gl) (c : Ctx) (x : Expr) (Q : D → St → Prop) : St → Prop := fun st => EW g c x st Q
noncomputable abbrev KX (g : Gl) (c : Ctx) (xs : List Stmt) (Q : Fl → St → Prop) : St → Prop := fun st => XW g c xs st Q
noncomputable abbrev KIf (A B : St → Prop) : Bool → St → Prop := fun b st => (b = true → A st) ∧ (b = false → B st)
inductive KBool (Q : Bool → St → Prop) (d : D) (st : St) : Prop
  | mk (b : Bool) (e : d = .bool b) (q : Q b st)
end Mine
open PySem PySem.W PySem.Calls PyProof.Rows
set_option maxRecDepth 100000
set_option Elab.async false
set_option maxHeartbeats 4000000
set_option linter.unusedVariables false
namespace Mine

/-! the library's frames and ledgers, over a whole heap -/
noncomputable def allOf (h : Heap) (L : Addr) : List (Addr × Obj) := (List.range h.objs.size).filterMap fun a => if a = L then Option.none else (h.get? a).map fun o => (a, o)
theorem mem_allOf {h : Heap} {L a : Addr} {o : Obj} : (a, o) ∈ allOf h L ↔ a ≠ L ∧ h.get? a = some o := by
  unfold allOf
  rw [List.mem_filterMap]
  constructor
  · rintro ⟨b, hb, e⟩
    split at e
    · cases e
    · rename_i n
      obtain ⟨o', ho, e⟩ := Option.map_eq_some_iff.mp e
      cases e
      exact ⟨n, ho⟩
  · rintro ⟨n, e⟩
    refine ⟨a, List.mem_range.mpr (Heap.lt_size e), ?_⟩
    rw [if_neg n, e]; rfl
theorem frAll {h : Heap} {L : Addr} {m : Str → Option Value} (hn : h.Ns L m) : Fr {} L h m :=
  ⟨hn, fun b o e => by simp [Heap.get?] at e, Nat.zero_le _⟩
theorem newsAll (h : Heap) (L : Addr) : News {} L h (allOf h L) := fun p hp => by
  obtain ⟨a, o⟩ := p
  obtain ⟨n, e⟩ := mem_allOf.mp hp
  exact ⟨e, n, by simp [Heap.get?]⟩
theorem news_back {h h' : Heap} {L : Addr} {more : List (Addr × Obj)} (N : News {} L h' more) (hs : ∀ p ∈ allOf h L, p ∈ more) : ∀ a o, a ≠ L → h.get? a = some o → h'.get? a = some o := fun a o n e =>
  (N (a, o) (hs _ (mem_allOf.mpr ⟨n, e⟩))).1

section
variable {g : Gl} {c : Ctx} {st : St}

theorem Ok.L {X : Addr → Prop} {s : Shared} (k : Ok g c X st s) : X c.env.locals := (k.mine _ (.head _)).1
/-- as Ok.grow, the frame's own dict apart -/
theorem Ok.growL {X : Addr → Prop} {s s' : Shared} (k : Ok g c X st s) (hk : ∀ a o, a ≠ c.env.locals → s.heap.get? a = some o → s'.heap.get? a = some o) (hl : ∀ m, s.heap.Ns c.env.locals m → s'.heap.Ns c.env.locals m)
    (hg : s'.gens = s.gens) (ho : s'.os = s.os) : Ok g c X st s' ∧ Mv X s.heap X s'.heap := by
  have hL := (k.mine _ (.head _)).1
  have M : Mv X s.heap X s'.heap := fun a o n e => ⟨n, hk a o (fun q => n (q ▸ hL)) e⟩
  obtain ⟨m, hm, r⟩ := k.loc
  have nd := k.nodup
  unfold own at nd
  rw [List.nodup_cons] at nd
  refine ⟨⟨k.cok, ⟨fun a o e => ?_, hg.trans k.base.gens, ho.trans k.base.os, fun a h => ?_⟩, fun a o e n => ?_, k.xc, k.nodup, k.mine, k.names, ?_, ?_, fun p hp => ?_⟩, M⟩
  · obtain ⟨x, y⟩ := k.base.keep a o e
    exact ⟨x, hk a o (fun q => x (q ▸ hL)) y⟩
  · by_cases q : a = c.env.locals
    · subst q
      obtain ⟨o, _, _, e, _⟩ := hl m hm
      exact ⟨o, e⟩
    · obtain ⟨o, e⟩ := k.base.live a h
      exact ⟨o, hk a o q e⟩
  · refine hk a o (fun q => ?_) (k.kept a o e n)
    rcases (k.mine _ (.head _)).2 with z | z
    · exact n (q ▸ z)
    · rw [q, z] at e; cases e
  · exact ⟨m, hl m hm, fun p hp => ⟨(r p hp).1, (r p hp).2.1, fun d e => let ⟨v, a, b⟩ := (r p hp).2.2 d e; ⟨v, a, b.mv M⟩⟩⟩
  · intro p hp
    obtain ⟨a, b, c', o, v, d, e, f⟩ := k.cel p hp
    exact ⟨a, b, c', o, v, hk _ _ (fun q => nd.1 (q ▸ List.mem_append_left _ (List.mem_map_of_mem hp))) d, e, fun d' q => let ⟨v', x, y⟩ := f d' q; ⟨v', x, y.mv M⟩⟩
  · exact (k.mu p hp).mv M fun o e => hk _ _ (fun q => nd.1 (q ▸ List.mem_append_right _ (List.mem_map_of_mem hp))) e
theorem Ok.ns {X : Addr → Prop} {s : Shared} (k : Ok g c X st s) : ∃ m, s.heap.Ns c.env.locals m := let ⟨m, h, _⟩ := k.loc; ⟨m, h⟩

/-! operators -/
noncomputable def BinQ (g : Gl) (c : Ctx) (op : Operator) (d₁ d₂ : D) (st : St) (Q : D → St → Prop) : Prop :=
  ∀ X s v₁ v₂, Ok g c X st s → At X s.heap d₁ v₁ → At X s.heap d₂ v₂ → wpAny g.M c.A (binaryOp op v₁ v₂) (Post g c X s Q) noE s
noncomputable abbrev KBin2 (g : Gl) (c : Ctx) (op : Operator) (Q : D → St → Prop) (d₁ : D) : D → St → Prop := fun d₂ st₂ => BinQ g c op d₁ d₂ st₂ Q
noncomputable abbrev KBin1 (g : Gl) (c : Ctx) (op : Operator) (r : Expr) (Q : D → St → Prop) : D → St → Prop := fun d₁ st₁ => EW g c r st₁ (KBin2 g c op Q d₁)
theorem ew_bin {l r : Expr} {op : Operator} {pos : Pos} {Q : D → St → Prop} (h : EW g c l st (KBin1 g c op r Q)) : EW g c (.BinOp l op r pos) st Q := fun X s k => by
  refine wpAny_BinOp (wpAny_mono (h X s k) (fun v₁ s₁ h₁ => ?_) fun _ _ z => z)
  obtain ⟨d₁, st₁, X₁, k₁, m₁, a₁, h₁⟩ := h₁
  refine wpAny_mono (h₁ X₁ s₁ k₁) (fun v₂ s₂ h₂ => ?_) fun _ _ z => z
  obtain ⟨d₂, st₂, X₂, k₂, m₂, a₂, h₂⟩ := h₂
  refine wpAny_mono (h₂ X₂ s₂ v₁ v₂ k₂ (a₁.mv m₂) a₂) (fun v s' h₃ => ?_) fun _ _ z => z
  obtain ⟨d, st', X', k', m', a', q⟩ := h₃
  exact ⟨d, st', X', k', (m₁.trans m₂).trans m', a', q⟩
variable {Q : D → St → Prop} {a b : Int}
theorem bq_add (q : Q (.int (a + b)) st) : BinQ g c .Add (.int a) (.int b) st Q := by
  rintro X s _ _ k ⟨t, rfl⟩ ⟨u, rfl⟩
  exact PyProof.Rows.add_int (k.stepped (d := .int (a + b)) (fun _ _ e => e) rfl rfl ⟨_, rfl⟩ q)
theorem bq_sub (q : Q (.int (a - b)) st) : BinQ g c .Sub (.int a) (.int b) st Q := by
  rintro X s _ _ k ⟨t, rfl⟩ ⟨u, rfl⟩
  exact sub_int' (k.stepped (d := .int (a - b)) (fun _ _ e => e) rfl rfl ⟨_, rfl⟩ q)
theorem bq_mul (hm : IntMulOk a b) (q : Q (.int (a * b)) st) : BinQ g c .Mult (.int a) (.int b) st Q := by
  rintro X s _ _ k ⟨t, rfl⟩ ⟨u, rfl⟩
  exact mul_int (k.stepped (d := .int (a * b)) (fun _ _ e => e) rfl rfl ⟨_, rfl⟩ q) hm
theorem bq_fdiv (hb : b ≠ 0) (hp : Builtin.divisionGoesByPylong a b = false) (q : Q (.int (a.fdiv b)) st) : BinQ g c .FloorDiv (.int a) (.int b) st Q := by
  rintro X s _ _ k ⟨t, rfl⟩ ⟨u, rfl⟩
  exact floordiv_int hb (k.stepped (d := .int (a.fdiv b)) (fun _ _ e => e) rfl rfl ⟨_, rfl⟩ q) (.inl hp)
theorem bq_mod (hb : b ≠ 0) (q : Q (.int (a.fmod b)) st) : BinQ g c .Mod (.int a) (.int b) st Q := by
  rintro X s _ _ k ⟨t, rfl⟩ ⟨u, rfl⟩
  exact mod_int' hb (k.stepped (d := .int (a.fmod b)) (fun _ _ e => e) rfl rfl ⟨_, rfl⟩ q)
theorem bq_pow (hn : 0 ≤ b) (hs : (Builtin.Int.intBits a : Int) * b ≤ 2 ^ 27) (q : Q (.int (a ^ b.toNat)) st) : BinQ g c .Pow (.int a) (.int b) st Q := by
  rintro X s _ _ k ⟨t, rfl⟩ ⟨u, rfl⟩
  exact pow_int hn hs (k.stepped (d := .int (a ^ b.toNat)) (fun _ _ e => e) rfl rfl ⟨_, rfl⟩ q)

/-- a new object at the heap's end -/
theorem fresh_not {X : Addr → Prop} {s : Shared} (k : Ok g c X st s) : ¬ X s.heap.objs.size := fun h => by
  obtain ⟨o, e⟩ := k.base.live _ h
  exact absurd (Heap.lt_size e) (Nat.lt_irrefl _)
theorem ns_same {h : Heap} {a : Addr} {m m' : Str → Option Value} (x : h.Ns a m) (y : h.Ns a m') : m' = m := funext fun n => by
  obtain ⟨o, es, ep, e, d, _, f⟩ := x
  obtain ⟨o', es', ep', e', d', _, f'⟩ := y
  rw [e] at e'; cases e'
  rw [d] at d'; cases d'
  rw [← f, ← f']
theorem Ok.byNews {X : Addr → Prop} {s : Shared} {m : Str → Option Value} {more : List (Addr × Obj)} {h' : Heap} {tk : Nat} (k : Ok g c X st s) (hm : s.heap.Ns c.env.locals m) (F : Fr {} c.env.locals h' m) (N : News {} c.env.locals h' more) (hs : ∀ p ∈ allOf s.heap c.env.locals, p ∈ more) :
    Ok g c X st { s with heap := h', toks := tk } ∧ Mv X s.heap X h' :=
  k.growL (s' := { s with heap := h', toks := tk }) (news_back N hs) (fun m' hm' => ns_same hm hm' ▸ F.ns) rfl rfl
theorem bq_addL {xs ys : List D} (hz : xs.length + ys.length ≤ 2 ^ 24) (q : Q (.lst (xs ++ ys)) st) : BinQ g c .Add (.lst xs) (.lst ys) st Q := by
  rintro X s _ _ k ⟨a, vs, rfl, na, la, ka⟩ ⟨b, us, rfl, nb, lb, kb⟩
  obtain ⟨m, hm⟩ := k.ns
  have e1 := ka.length
  have e2 := kb.length
  refine add_arrays (frAll hm) (newsAll _ _) la.isList lb.isList (fun h' F N => ?_) (by simp only [List.size_toArray]; rw [sizeLine_eq]; (first | lia | omega))
  obtain ⟨K', M⟩ := k.byNews (tk := s.toks) hm F N fun p hp => .tail _ hp
  exact ⟨.lst (xs ++ ys), st, X, K', M, ⟨s.heap.objs.size, vs ++ us, rfl, fresh_not k, ⟨0, by simpa using (N _ (.head _)).1⟩, (ka.mv M).append (kb.mv M)⟩, q⟩
end
end Mine
open PySem PySem.W PySem.Calls PyProof.Rows
set_option maxRecDepth 100000
set_option Elab.async false
set_option maxHeartbeats 4000000
set_option linter.unusedVariables false
namespace Mine

section
variable {g : Gl} {c : Ctx} {st : St} {Q : D → St → Prop} {a b : Int}

/-! comparisons -/
noncomputable def CmpQ (g : Gl) (c : Ctx) (op : CmpOp) (d₁ d₂ : D) (st : St) (Q : D → St → Prop) : Prop :=
  ∀ X s v₁ v₂, Ok g c X st s → At X s.heap d₁ v₁ → At X s.heap d₂ v₂ → wpAny g.M c.A (compareOp op v₁ v₂) (Post g c X s Q) noE s
noncomputable def notSet : Expr → Bool
  | .Set .. => false
  | _ => true
theorem notSet_marks {op : CmpOp} {e : Expr} (h : notSet e = true) : behindInMarks op e = false := by cases e <;> first | rfl | cases h
theorem Post.up {X X' : Addr → Prop} {s s' : Shared} {Q : D → St → Prop} {v : Value} {s₂ : Shared} (m : Mv X s.heap X' s'.heap) (p : Post g c X' s' Q v s₂) : Post g c X s Q v s₂ := by
  obtain ⟨d, st', X₂, k, m', a, q⟩ := p
  exact ⟨d, st', X₂, k, m.trans m', a, q⟩
theorem PostB.up {X X' : Addr → Prop} {s s' : Shared} {Q : Bool → St → Prop} {v : Bool} {s₂ : Shared} (m : Mv X s.heap X' s'.heap) (p : PostB g c X' s' Q v s₂) : PostB g c X s Q v s₂ := by
  obtain ⟨st', X₂, k, m', q⟩ := p
  exact ⟨st', X₂, k, m.trans m', q⟩

noncomputable abbrev KCmp2 (g : Gl) (c : Ctx) (op : CmpOp) (Q : D → St → Prop) (d₁ : D) : D → St → Prop := fun d₂ st₂ => CmpQ g c op d₁ d₂ st₂ Q
noncomputable abbrev KCmp1 (g : Gl) (c : Ctx) (op : CmpOp) (r : Expr) (Q : D → St → Prop) : D → St → Prop := fun d₁ st₁ => EW g c r st₁ (KCmp2 g c op Q d₁)
noncomputable abbrev KCh3 (g : Gl) (c : Ctx) (op : CmpOp) (r : Expr) (Q : D → St → Prop) (d₂ : D) : St → Prop := fun st₃ => EW g c r st₃ (KCmp2 g c op Q d₂)
noncomputable abbrev KCh2 (g : Gl) (c : Ctx) (op₁ op₂ : CmpOp) (r₂ : Expr) (Q : D → St → Prop) (A : St → Prop) (d₁ : D) : D → St → Prop := fun d₂ st₂ => CmpQ g c op₁ d₁ d₂ st₂ (KBool (KIf (KCh3 g c op₂ r₂ Q d₂) A))
noncomputable abbrev KCh1 (g : Gl) (c : Ctx) (op₁ op₂ : CmpOp) (r₁ r₂ : Expr) (Q : D → St → Prop) (A : St → Prop) : D → St → Prop := fun d₁ st₁ => EW g c r₁ st₁ (KCh2 g c op₁ op₂ r₂ Q A d₁)
theorem ew_cmp {l r : Expr} {op : CmpOp} {pos : Pos} (hr : notSet r = true) (h : EW g c l st (KCmp1 g c op r Q)) : EW g c (.Compare l [op] [r] pos) st Q := fun X s k => by
  refine wpAny_Compare1 (wpAny_mono (h X s k) (fun v₁ s₁ h₁ => ?_) fun _ _ z => z) (notSet_marks hr)
  obtain ⟨d₁, st₁, X₁, k₁, m₁, a₁, h₁⟩ := h₁
  refine wpAny_mono (h₁ X₁ s₁ k₁) (fun v₂ s₂ h₂ => ?_) fun _ _ z => z
  obtain ⟨d₂, st₂, X₂, k₂, m₂, a₂, h₂⟩ := h₂
  exact wpAny_mono (h₂ X₂ s₂ v₁ v₂ k₂ (a₁.mv m₂) a₂) (fun v s' h₃ => Post.up (m₁.trans m₂) h₃) fun _ _ z => z
theorem bw_cmp {l r : Expr} {op : CmpOp} {pos : Pos} {Q : Bool → St → Prop} (hr : notSet r = true) (h : EW g c l st (KCmp1 g c op r (KBool Q))) : BW g c (.Compare l [op] [r] pos) st Q := fun X s k => by
  refine wpAny_isTrue_Compare1 (wpAny_mono (h X s k) (fun v₁ s₁ h₁ => ?_) fun _ _ z => z) (notSet_marks hr)
  obtain ⟨d₁, st₁, X₁, k₁, m₁, a₁, h₁⟩ := h₁
  refine wpAny_mono (h₁ X₁ s₁ k₁) (fun v₂ s₂ h₂ => ?_) fun _ _ z => z
  obtain ⟨d₂, st₂, X₂, k₂, m₂, a₂, h₂⟩ := h₂
  refine wpAny_mono (h₂ X₂ s₂ v₁ v₂ k₂ (a₁.mv m₂) a₂) (fun v s' h₃ => ?_) fun _ _ z => z
  obtain ⟨d, st', X', k', m', a', b, rfl, q⟩ := h₃
  obtain rfl : v = .bool b := a'
  exact wpAny_truthy_bool ⟨st', X', k', (m₁.trans m₂).trans m', q⟩

theorem cq_lt (q : Q (.bool (decide (a < b))) st) : CmpQ g c .Lt (.int a) (.int b) st Q := by
  rintro X s _ _ k ⟨t, rfl⟩ ⟨u, rfl⟩
  exact lt_int (k.stepped (d := .bool (decide (a < b))) (fun _ _ e => e) rfl rfl rfl q)
theorem cq_le (q : Q (.bool (decide (a ≤ b))) st) : CmpQ g c .LtE (.int a) (.int b) st Q := by
  rintro X s _ _ k ⟨t, rfl⟩ ⟨u, rfl⟩
  exact le_int (k.stepped (d := .bool (decide (a ≤ b))) (fun _ _ e => e) rfl rfl rfl q)
theorem cq_gt (q : Q (.bool (decide (b < a))) st) : CmpQ g c .Gt (.int a) (.int b) st Q := by
  rintro X s _ _ k ⟨t, rfl⟩ ⟨u, rfl⟩
  exact gt_int (k.stepped (d := .bool (decide (b < a))) (fun _ _ e => e) rfl rfl rfl q)
theorem cq_ge (q : Q (.bool (decide (b ≤ a))) st) : CmpQ g c .GtE (.int a) (.int b) st Q := by
  rintro X s _ _ k ⟨t, rfl⟩ ⟨u, rfl⟩
  exact ge_int (k.stepped (d := .bool (decide (b ≤ a))) (fun _ _ e => e) rfl rfl rfl q)
theorem cq_eq (q : Q (.bool (decide (a = b))) st) : CmpQ g c .Eq (.int a) (.int b) st Q := by
  rintro X s _ _ k ⟨t, rfl⟩ ⟨u, rfl⟩
  exact eq_int (k.stepped (d := .bool (decide (a = b))) (fun _ _ e => e) rfl rfl rfl q)
theorem cq_ne (q : Q (.bool (!decide (a = b))) st) : CmpQ g c .NotEq (.int a) (.int b) st Q := by
  rintro X s _ _ k ⟨t, rfl⟩ ⟨u, rfl⟩
  exact ne_int (k.stepped (d := .bool (!decide (a = b))) (fun _ _ e => e) rfl rfl rfl q)
noncomputable def isNoneD : D → Bool
  | .none => true
  | .raw v => v == .none
  | _ => false
theorem isNone_at {X : Addr → Prop} {h : Heap} {d : D} {v : Value} (k : At X h d v) : (v == .none) = isNoneD d := by
  cases d with
  | int i => obtain ⟨t, rfl⟩ := k; rfl
  | bool i => obtain rfl := k; rfl
  | none => obtain rfl := k; rfl
  | raw i => obtain rfl := k; rfl
  | tup i => obtain ⟨_, _, rfl, _⟩ := k; rfl
  | lst i => obtain ⟨_, _, rfl, _⟩ := k; rfl
  | inst i => obtain ⟨_, _, _, rfl, _⟩ := k; rfl
  | mlst i => obtain rfl := k; rfl
  | minst i => obtain ⟨rfl, _⟩ := k; rfl
  | rng i => obtain ⟨_, _, _, _, rfl, _⟩ := k; rfl
theorem cq_is {d : D} {b : Bool} (e : isNoneD d = b) (q : Q (.bool b) st) : CmpQ g c .Is d .none st Q := by
  rintro X s v _ k a rfl
  refine is_none (k.stepped (d := .bool b) (fun _ _ e => e) rfl rfl (show Value.bool _ = Value.bool b from ?_) q)
  rw [isNone_at a, e]
theorem cq_isNot {d : D} {b : Bool} (e : isNoneD d = b) (q : Q (.bool (!b)) st) : CmpQ g c .IsNot d .none st Q := by
  rintro X s v _ k a rfl
  refine isNot_none (k.stepped (d := .bool (!b)) (fun _ _ e => e) rfl rfl (show Value.bool _ = Value.bool (!b) from ?_) q)
  rw [isNone_at a, e]

/-- a comparison's value is a bool, then a test -/
theorem compareChain_two {op₁ op₂ : CmpOp} {l r₁ r₂ : Expr} {pos : Pos} (h₁' : notSet r₁ = true) (h₂' : notSet r₂ = true)
    (h : EW g c l st (KCh1 g c op₁ op₂ r₁ r₂ Q (Q (.bool false)))) :
    EW g c (.Compare l [op₁, op₂] [r₁, r₂] pos) st Q := fun X s k => by
  show wpAny g.M c.A (eval (.Compare l [op₁, op₂] [r₁, r₂] pos) c.env) _ _ _
  rw [arm_eval_Compare]
  refine wpAny_bind (wpAny_mono (h X s k) (fun v₁ s₁ h₁ => ?_) fun _ _ z => z)
  obtain ⟨d₁, st₁, X₁, k₁, m₁, a₁, h₁⟩ := h₁
  have em : markedEach [op₁, op₂] [r₁, r₂] (evalEach [r₁, r₂] c.env) = [eval r₁ c.env, eval r₂ c.env] := by
    show eval r₁ c.env :: [markedBehindIn op₂ r₂ (eval r₂ c.env)] = _
    rw [markedBehindIn_of_false (notSet_marks h₂')]
  rw [em]
  show wpAny g.M c.A (do
    let rv ← holding [v₁] (eval r₁ c.env)
    standAt pos
    let x ← holding [v₁, rv] (compareOp op₁ v₁ rv)
    release [v₁, rv] [x]
    if ← holding [x, rv] (truthy x) then compareChain pos rv [op₂] [eval r₂ c.env] else pure x) _ _ _
  refine wpAny_bind (wpAny_holding (wpAny_mono (h₁ X₁ s₁ k₁) (fun v₂ s₂ h₂ => ?_) fun _ _ z => z))
  obtain ⟨d₂, st₂, X₂, k₂, m₂, a₂, h₂⟩ := h₂
  refine wpAny_bind (wpAny_standAt (wpAny_bind (wpAny_holding (wpAny_mono (h₂ X₂ s₂ v₁ v₂ k₂ (a₁.mv m₂) a₂) (fun x s₃ h₃ => ?_) fun _ _ z => z))))
  obtain ⟨d, st₃, X₃, k₃, m₃, a₃, b, rfl, ht, hf⟩ := h₃
  obtain rfl : x = .bool b := a₃
  refine wpAny_bind (wpAny_release (wpAny_bind (wpAny_holding (wpAny_truthy_bool ?_))))
  have M := (m₁.trans m₂).trans m₃
  cases b with
  | false => exact wpAny_pure ⟨.bool false, st₃, X₃, k₃, M, rfl, hf rfl⟩
  | true =>
    show wpAny g.M c.A (do
      let rv ← holding [v₂] (eval r₂ c.env)
      standAt pos
      operate [v₂, rv] (compareOp op₂ v₂ rv)) _ _ _
    refine wpAny_bind (wpAny_holding (wpAny_mono (ht rfl X₃ s₃ k₃) (fun v₄ s₄ h₄ => ?_) fun _ _ z => z))
    obtain ⟨d₄, st₄, X₄, k₄, m₄, a₄, h₄⟩ := h₄
    exact wpAny_bind (wpAny_standAt (wpAny_operating (wpAny_mono (h₄ X₄ s₄ v₂ v₄ k₄ ((a₂.mv m₃).mv m₄) a₄) (fun v s' h₃ => Post.up (M.trans m₄) h₃) fun _ _ z => z)))
theorem bw_chain {op₁ op₂ : CmpOp} {l r₁ r₂ : Expr} {pos : Pos} {Q : Bool → St → Prop} (h₁' : notSet r₁ = true) (h₂' : notSet r₂ = true)
    (h : EW g c l st (KCh1 g c op₁ op₂ r₁ r₂ (KBool Q) (Q false))) :
    BW g c (.Compare l [op₁, op₂] [r₁, r₂] pos) st Q := fun X s k => by
  rw [arm_isTrue_Compare]
  refine wpAny_bind (wpAny_mono (h X s k) (fun v₁ s₁ h₁ => ?_) fun _ _ z => z)
  obtain ⟨d₁, st₁, X₁, k₁, m₁, a₁, h₁⟩ := h₁
  have em : markedEach [op₁, op₂] [r₁, r₂] (evalEach [r₁, r₂] c.env) = [eval r₁ c.env, eval r₂ c.env] := by
    show eval r₁ c.env :: [markedBehindIn op₂ r₂ (eval r₂ c.env)] = _
    rw [markedBehindIn_of_false (notSet_marks h₂')]
  rw [em]
  show wpAny g.M c.A (do
    let rv ← holding [v₁] (eval r₁ c.env)
    standAt pos
    let x ← holding [v₁, rv] (compareOp op₁ v₁ rv)
    release [v₁, rv] [x]
    if ← holding [x, rv] (truthy x) then testChain pos rv [op₂] [eval r₂ c.env] else pure false) _ _ _
  refine wpAny_bind (wpAny_holding (wpAny_mono (h₁ X₁ s₁ k₁) (fun v₂ s₂ h₂ => ?_) fun _ _ z => z))
  obtain ⟨d₂, st₂, X₂, k₂, m₂, a₂, h₂⟩ := h₂
  refine wpAny_bind (wpAny_standAt (wpAny_bind (wpAny_holding (wpAny_mono (h₂ X₂ s₂ v₁ v₂ k₂ (a₁.mv m₂) a₂) (fun x s₃ h₃ => ?_) fun _ _ z => z))))
  obtain ⟨d, st₃, X₃, k₃, m₃, a₃, b, rfl, ht, hf⟩ := h₃
  obtain rfl : x = .bool b := a₃
  refine wpAny_bind (wpAny_release (wpAny_bind (wpAny_holding (wpAny_truthy_bool ?_))))
  have M := (m₁.trans m₂).trans m₃
  cases b with
  | false => exact wpAny_pure ⟨st₃, X₃, k₃, M, hf rfl⟩
  | true =>
    show wpAny g.M c.A (do
      let rv ← holding [v₂] (eval r₂ c.env)
      standAt pos
      let x ← operate [v₂, rv] (compareOp op₂ v₂ rv)
      holding [x] (truthy x)) _ _ _
    refine wpAny_bind (wpAny_holding (wpAny_mono (ht rfl X₃ s₃ k₃) (fun v₄ s₄ h₄ => ?_) fun _ _ z => z))
    obtain ⟨d₄, st₄, X₄, k₄, m₄, a₄, h₄⟩ := h₄
    refine wpAny_bind (wpAny_standAt (wpAny_bind (wpAny_operating (wpAny_mono (h₄ X₄ s₄ v₂ v₄ k₄ ((a₂.mv m₃).mv m₄) a₄) (fun v s' h₃ => ?_) fun _ _ z => z))))
    obtain ⟨d, st', X', k', m', a', b, rfl, q⟩ := h₃
    obtain rfl : v = .bool b := a'
    exact wpAny_holding (wpAny_truthy_bool ⟨st', X', k', (M.trans m₄).trans m', q⟩)

/-! tests -/
noncomputable abbrev KNot (Q : Bool → St → Prop) : Bool → St → Prop := fun b => Q (!b)
theorem bw_not {x : Expr} {pos : Pos} {Q : Bool → St → Prop} (h : BW g c x st (KNot Q)) : BW g c (.UnaryOp .Not x pos) st Q := fun X s k =>
  wpAny_isTrue_Not (wpAny_mono (h X s k) (fun b s' ⟨st', X', k', m', q⟩ => ⟨st', X', k', m', q⟩) fun _ _ z => z)
noncomputable def plainTest : Expr → Bool
  | .UnaryOp .. | .BoolOp .. | .IfExp .. | .Compare .. => false
  | _ => true
theorem bw_val {e : Expr} {Q : Bool → St → Prop} (he : plainTest e = true) (h : EW g c e st (KBool Q)) : BW g c e st Q := fun X s k => by
  have e1 : PySem.isTrue e c.env (eval e c.env) = (do let v ← eval e c.env; standAt e.pos; holding [v] (truthy v)) := by cases e <;> first | rfl | cases he
  rw [e1]
  refine wpAny_bind (wpAny_mono (h X s k) (fun v s' h' => ?_) fun _ _ z => z)
  obtain ⟨d, st', X', k', m', a', b, rfl, q⟩ := h'
  obtain rfl : v = .bool b := a'
  exact wpAny_bind (wpAny_standAt (wpAny_holding (wpAny_truthy_bool ⟨st', X', k', m', q⟩)))
noncomputable def ATW (g : Gl) (c : Ctx) (op : BoolOp) (es : List Expr) (st : St) (Q : Bool → St → Prop) : Prop :=
  ∀ X s, Ok g c X st s → wpAny g.M c.A (allTrue op es c.env) (PostB g c X s Q) noE s
theorem bw_bool {op : BoolOp} {es : List Expr} {pos : Pos} {Q : Bool → St → Prop} (h : ATW g c op es st Q) : BW g c (.BoolOp op es pos) st Q := fun X s k => wpAny_isTrue_BoolOp (h X s k)
theorem at_and_nil {Q : Bool → St → Prop} (q : Q true st) : ATW g c .And [] st Q := fun X s k => wpAny_allTrue_And_nil ⟨st, X, k, .refl _ _, q⟩
theorem at_or_nil {Q : Bool → St → Prop} (q : Q false st) : ATW g c .Or [] st Q := fun X s k => wpAny_allTrue_Or_nil ⟨st, X, k, .refl _ _, q⟩
noncomputable abbrev KAT (g : Gl) (c : Ctx) (op : BoolOp) (es : List Expr) (Q : Bool → St → Prop) : St → Prop := fun st => ATW g c op es st Q
theorem at_and {e : Expr} {es : List Expr} {Q : Bool → St → Prop} (h : BW g c e st (KIf (KAT g c .And es Q) (Q false))) : ATW g c .And (e :: es) st Q := fun X s k => by
  refine wpAny_allTrue_And_cons (wpAny_mono (h X s k) (fun b s' h' => ?_) fun _ _ z => z)
  obtain ⟨st', X', k', m', ht, hf⟩ := h'
  cases b with
  | true => exact wpAny_mono (ht rfl X' s' k') (fun _ _ z => PostB.up m' z) fun _ _ z => z
  | false => exact ⟨st', X', k', m', hf rfl⟩
theorem at_or {e : Expr} {es : List Expr} {Q : Bool → St → Prop} (h : BW g c e st (KIf (Q true) (KAT g c .Or es Q))) : ATW g c .Or (e :: es) st Q := fun X s k => by
  refine wpAny_allTrue_Or_cons (wpAny_mono (h X s k) (fun b s' h' => ?_) fun _ _ z => z)
  obtain ⟨st', X', k', m', ht, hf⟩ := h'
  cases b with
  | false => exact wpAny_mono (hf rfl X' s' k') (fun _ _ z => PostB.up m' z) fun _ _ z => z
  | true => exact ⟨st', X', k', m', ht rfl⟩

/-! and, or as values: of bools -/
noncomputable def BOW (g : Gl) (c : Ctx) (pos : Pos) (op : BoolOp) (es : List Expr) (st : St) (Q : D → St → Prop) : Prop :=
  ∀ X s, Ok g c X st s → wpAny g.M c.A (boolOp pos op (evalEach es c.env)) (Post g c X s Q) noE s
theorem ew_boolop {op : BoolOp} {es : List Expr} {pos : Pos} (h : BOW g c pos op es st Q) : EW g c (.BoolOp op es pos) st Q := fun X s k => by
  show wpAny g.M c.A (eval (.BoolOp op es pos) c.env) _ _ _
  rw [arm_eval_BoolOp]; exact h X s k
theorem bo_one {op : BoolOp} {e : Expr} {pos : Pos} (h : EW g c e st Q) : BOW g c pos op [e] st Q := h
noncomputable abbrev KBO (g : Gl) (c : Ctx) (pos : Pos) (op : BoolOp) (es : List Expr) (Q : D → St → Prop) : St → Prop := fun st => BOW g c pos op es st Q
theorem bo_and {e e' : Expr} {es : List Expr} {pos : Pos} (h : EW g c e st (KBool (KIf (KBO g c pos .And (e' :: es) Q) (Q (.bool false))))) : BOW g c pos .And (e :: e' :: es) st Q := fun X s k => by
  show wpAny g.M c.A (do
    let v ← eval e c.env
    standAt pos
    let t ← holding [v] (truthy v)
    match BoolOp.And, t with
    | .And, false | .Or, true => pure v
    | _, _ => boolOp pos .And (evalEach (e' :: es) c.env)) _ _ _
  refine wpAny_bind (wpAny_mono (h X s k) (fun v s' h' => ?_) fun _ _ z => z)
  obtain ⟨d, st', X', k', m', a', b, rfl, ht, hf⟩ := h'
  obtain rfl : v = .bool b := a'
  refine wpAny_bind (wpAny_standAt (wpAny_bind (wpAny_holding (wpAny_truthy_bool ?_))))
  cases b with
  | true => exact wpAny_mono (ht rfl X' s' k') (fun _ _ z => Post.up m' z) fun _ _ z => z
  | false => exact wpAny_pure ⟨.bool false, st', X', k', m', rfl, hf rfl⟩
noncomputable abbrev KNotV (Q : D → St → Prop) : Bool → St → Prop := fun b => Q (.bool (!b))
theorem ew_not {x : Expr} {pos : Pos} (h : EW g c x st (KBool (KNotV Q))) : EW g c (.UnaryOp .Not x pos) st Q := fun X s k => by
  refine wpAny_UnaryOp (wpAny_mono (h X s k) (fun v s' h' => ?_) fun _ _ z => z)
  obtain ⟨d, st', X', k', m', a', b, rfl, q⟩ := h'
  obtain rfl : v = .bool b := a'
  exact not_value (wpAny_truthy_bool ⟨.bool (!b), st', X', k', m', rfl, q⟩)
inductive KNeg (Q : D → St → Prop) (d : D) (st : St) : Prop
  | mk (i : Int) (e : d = .int i) (q : Q (.int (-i)) st)
theorem ew_neg {x : Expr} {pos : Pos} (h : EW g c x st (KNeg Q)) : EW g c (.UnaryOp .USub x pos) st Q := fun X s k => by
  refine wpAny_UnaryOp (wpAny_mono (h X s k) (fun v s' h' => ?_) fun _ _ z => z)
  obtain ⟨d, st', X', k', m', a', i, rfl, q⟩ := h'
  obtain ⟨t, rfl⟩ := a'
  exact neg_int (Post.up m' (k'.stepped (d := .int (-i)) (fun _ _ e => e) rfl rfl ⟨_, rfl⟩ q))
theorem ew_if {t x y : Expr} {pos : Pos} (h : BW g c t st (KIf (KE g c x Q) (KE g c y Q))) : EW g c (.IfExp t x y pos) st Q := fun X s k => by
  refine wpAny_IfExp (wpAny_mono (h X s k) (fun b s' h' => ?_) fun _ _ z => z)
  obtain ⟨st', X', k', m', ht, hf⟩ := h'
  cases b with
  | true => exact wpAny_mono (ht rfl X' s' k') (fun _ _ z => Post.up m' z) fun _ _ z => z
  | false => exact wpAny_mono (hf rfl X' s' k') (fun _ _ z => Post.up m' z) fun _ _ z => z
end
end Mine
open PySem PySem.W PySem.Calls PyProof.Rows
set_option maxRecDepth 100000
set_option Elab.async false
set_option maxHeartbeats 4000000
set_option linter.unusedVariables false
namespace Mine

section
variable {g : Gl} {c : Ctx} {st : St} {Q : D → St → Prop} {a b : Int}

/-! several expressions -/
noncomputable def notStar : Expr → Bool
  | .Starred .. => false
  | _ => true
theorem starEach_cons {e : Expr} {es : List Expr} {env : Env} (h : notStar e = true) : starEach (e :: es) env = (false, eval e env) :: starEach es env := by cases e <;> first | rfl | cases h
theorem lw_nil {Q : List D → St → Prop} (q : Q [] st) : LW g c [] st Q := fun pos X s k => wpAny_items_nil ⟨[], st, X, k, .refl _ _, rfl, rfl, q⟩
noncomputable abbrev KL2 (Q : List D → St → Prop) (d : D) : List D → St → Prop := fun ds st => Q (d :: ds) st
noncomputable abbrev KL1 (g : Gl) (c : Ctx) (es : List Expr) (Q : List D → St → Prop) : D → St → Prop := fun d st₁ => LW g c es st₁ (KL2 Q d)
noncomputable abbrev KTup (Q : D → St → Prop) : List D → St → Prop := fun ds => Q (.tup ds)
noncomputable abbrev KLst (Q : D → St → Prop) : List D → St → Prop := fun ds => Q (.lst ds)
noncomputable abbrev KML (c : Ctx) (Q : D → St → Prop) : List D → St → Prop := fun ds st' => ∀ a, ¬ c.Xc a → Q (.mlst a) ⟨st'.loc, st'.cel, (a, .lst ds) :: st'.mu⟩
theorem lw_cons {e : Expr} {es : List Expr} {Q : List D → St → Prop} (he : notStar e = true) (h : EW g c e st (KL1 g c es Q)) : LW g c (e :: es) st Q := fun pos X s k => by
  refine wpAny_items_cons (wpAny_mono (h X s k) (fun v s₁ h₁ => ?_) fun _ _ z => z) (starEach_cons he)
  obtain ⟨d, st₁, X₁, k₁, m₁, a₁, h₁⟩ := h₁
  refine wpAny_mono (h₁ pos X₁ s₁ k₁) (fun vs s₂ h₂ => ?_) fun _ _ z => z
  obtain ⟨ds, st₂, X₂, k₂, m₂, a₂, hl, q⟩ := h₂
  exact ⟨d :: ds, st₂, X₂, k₂, m₁.trans m₂, ⟨v, vs, rfl, a₁.mv m₂, a₂⟩, by rw [List.length_cons, List.length_cons, hl], q⟩

theorem get_push {h : Heap} {o o' : Obj} {a : Addr} (e : h.get? a = some o) : (h.push o').get? a = some o := Heap.get?_push_of_some _ e
noncomputable def shortE : Nat → List Expr → Bool
  | _, [] => true
  | 0, _ :: _ => false
  | n + 1, _ :: r => shortE n r
theorem shortE_le : ∀ {n : Nat} {es : List Expr}, shortE n es = true → es.length ≤ n
  | _, [], _ => Nat.zero_le _
  | 0, _ :: _, h => by cases h
  | n + 1, _ :: r, h => Nat.succ_le_succ (shortE_le (n := n) (es := r) h)
theorem ew_tup {es : List Expr} {n : Nat} {pos : Pos} (hz : shortE 40 es = true) (h : LW g c es st (KTup Q)) : EW g c (.Tuple es n pos) st Q := fun X s k => by
  refine wpAny_Tuple (wpAny_mono (h pos X s k) (fun vs s₁ h₁ => ?_) fun _ _ z => z)
  obtain ⟨ds, st₁, X₁, k₁, m₁, a₁, hl, q⟩ := h₁
  have hz := shortE_le hz
  obtain ⟨k', m'⟩ := k₁.grow (s' := { s₁ with heap := s₁.heap.push { cls := .type "tuple", data := .seq vs.toArray } }) (fun _ _ e => get_push e) rfl rfl
  refine ⟨by rw [a₁.length, sizeLine_eq]; (first | lia | omega), .tup ds, st₁, X₁, k', m₁.trans m', ⟨_, vs, rfl, fresh_not k₁, ⟨_, Heap.get?_push_size _ rfl, rfl, 0, rfl⟩, a₁.mv m'⟩, q⟩
theorem ew_lst {es : List Expr} {pos : Pos} (hz : shortE 40 es = true) (h : LW g c es st (KLst Q)) : EW g c (.List es pos) st Q := fun X s k => by
  refine wpAny_List (wpAny_mono (h pos X s k) (fun vs s₁ h₁ => ?_) fun _ _ z => z)
  obtain ⟨ds, st₁, X₁, k₁, m₁, a₁, hl, q⟩ := h₁
  have hz := shortE_le hz
  obtain ⟨k', m'⟩ := k₁.grow (s' := { s₁ with heap := s₁.heap.push { cls := .type "list", data := .seq vs.toArray } }) (fun _ _ e => get_push e) rfl rfl
  refine ⟨by rw [a₁.length, sizeLine_eq]; (first | lia | omega), .lst ds, st₁, X₁, k', m₁.trans m', ⟨_, vs, rfl, fresh_not k₁, ⟨0, Heap.get?_push_size _ rfl⟩, a₁.mv m'⟩, q⟩

/-! a new mutable object -/
theorem Ok.hI_none {X : Addr → Prop} {s : Shared} (k : Ok g c X st s) : c.hI.get? s.heap.objs.size = Option.none := by
  cases e : c.hI.get? s.heap.objs.size with
  | none => rfl
  | some o =>
    by_cases hp : c.P s.heap.objs.size
    · exact absurd (k.xc _ (k.cok.px _ hp)) (fresh_not k)
    · exact absurd (Heap.lt_size (k.kept _ _ e hp)) (Nat.lt_irrefl _)
theorem Ok.fresh_xc {X : Addr → Prop} {s : Shared} (k : Ok g c X st s) : ¬ c.Xc s.heap.objs.size := fun h => fresh_not k (k.xc _ h)
theorem Ok.own_lt {X : Addr → Prop} {s : Shared} (k : Ok g c X st s) : ∀ a ∈ own c st, a < s.heap.objs.size := fun a ha => let ⟨o, e⟩ := k.base.live a (k.mine a ha).1; Heap.lt_size e
/-- mutable addresses may be more -/
theorem Mv.more {X X' : Addr → Prop} {h : Heap} (e : ∀ a, X' a → X a ∨ h.get? a = Option.none) : Mv X h X' h := fun a o n q => ⟨fun hx => (e a hx).elim n (fun z => by rw [z] at q; cases q), q⟩
theorem Ok.alloc {X : Addr → Prop} {s : Shared} {l cl mu} {o : Obj} {u : Mu} (k : Ok g c X ⟨l, cl, mu⟩ s) (hf : o.isFreed = false)
    (hu : ∀ X', Mv X s.heap X' (s.heap.push o) → MAt X' (s.heap.push o) s.heap.objs.size u) :
    Ok g c (fun a => X a ∨ a = s.heap.objs.size) ⟨l, cl, (s.heap.objs.size, u) :: mu⟩ { s with heap := s.heap.push o } ∧ Mv X s.heap (fun a => X a ∨ a = s.heap.objs.size) (s.heap.push o) := by
  have hl := k.own_lt
  have hnew : s.heap.get? s.heap.objs.size = Option.none := by
    cases e : s.heap.get? s.heap.objs.size with
    | none => rfl
    | some o => exact absurd (Heap.lt_size e) (Nat.lt_irrefl _)
  have M : Mv X s.heap (fun a => X a ∨ a = s.heap.objs.size) (s.heap.push o) := fun a o' n e => ⟨fun h => h.elim n (fun z => by rw [z, hnew] at e; cases e), get_push e⟩
  have nd := k.nodup
  refine ⟨⟨k.cok, ⟨fun a o' e => ?_, k.base.gens, k.base.os, fun a h => ?_⟩, fun a o' e n => get_push (k.kept a o' e n), fun a h => .inl (k.xc a h), ?_, ?_, k.names, ?_, ?_, ?_⟩, M⟩
  · obtain ⟨x, y⟩ := k.base.keep a o' e
    exact M a o' x y
  · rcases h with h | rfl
    · obtain ⟨o', e⟩ := k.base.live a h
      exact ⟨o', get_push e⟩
    · exact ⟨o, Heap.get?_push_size _ hf⟩
  · show (c.env.locals :: (cl.map (·.2.1) ++ s.heap.objs.size :: mu.map (·.1))).Nodup
    have q : s.heap.objs.size ∉ own c ⟨l, cl, mu⟩ := fun h => absurd (hl _ h) (Nat.lt_irrefl _)
    unfold own at q nd
    have p : (c.env.locals :: (cl.map (·.2.1) ++ s.heap.objs.size :: mu.map (·.1))).Perm (s.heap.objs.size :: (c.env.locals :: (cl.map (·.2.1) ++ mu.map (·.1)))) :=
      ((List.perm_middle).cons _).trans (List.Perm.swap ..)
    exact p.nodup_iff.mpr (List.nodup_cons.mpr ⟨q, nd⟩)
  · intro a ha
    have : a = s.heap.objs.size ∨ a ∈ own c ⟨l, cl, mu⟩ := by
      unfold own at ha ⊢
      simp only [List.map_cons, List.mem_cons, List.mem_append] at ha ⊢
      rcases ha with h | h | h | h
      · exact .inr (.inl h)
      · exact .inr (.inr (.inl h))
      · exact .inl h
      · exact .inr (.inr (.inr h))
    rcases this with rfl | h
    · exact ⟨.inr rfl, .inr k.hI_none⟩
    · exact ⟨.inl (k.mine a h).1, (k.mine a h).2⟩
  · obtain ⟨m, hm, r⟩ := k.loc
    exact ⟨m, hm.push _, fun p hp => ⟨(r p hp).1, (r p hp).2.1, fun d e => let ⟨v, a, b⟩ := (r p hp).2.2 d e; ⟨v, a, b.mv M⟩⟩⟩
  · intro p hp
    obtain ⟨a, b, c', o', v, d, e, f⟩ := k.cel p hp
    exact ⟨a, b, c', o', v, get_push d, e, fun d' q => let ⟨v', x, y⟩ := f d' q; ⟨v', x, y.mv M⟩⟩
  · intro p hp
    rcases List.mem_cons.mp hp with rfl | hp
    · exact hu _ M
    · exact (k.mu p hp).mv M fun o' e => get_push e
theorem ew_mlst {es : List Expr} {pos : Pos} (hz : shortE 40 es = true) (h : LW g c es st (KML c Q)) : EW g c (.List es pos) st Q := fun X s k => by
  refine wpAny_List (wpAny_mono (h pos X s k) (fun vs s₁ h₁ => ?_) fun _ _ z => z)
  obtain ⟨ds, ⟨l, cl, mu⟩, X₁, k₁, m₁, a₁, hl, q⟩ := h₁
  have hz := shortE_le hz
  obtain ⟨k', m'⟩ := k₁.alloc (o := { cls := .type "list", data := .seq vs.toArray }) (u := .lst ds) rfl fun X' M => ⟨vs, ⟨0, Heap.get?_push_size _ rfl⟩, a₁.mv M⟩
  exact ⟨by rw [a₁.length, sizeLine_eq]; (first | lia | omega), .mlst _, _, _, k', m₁.trans m', rfl, q _ k₁.fresh_xc⟩

/-! names stored -/
inductive Up (n : Str) (d : D) : List (Str × Option D) → List (Str × Option D) → Prop
  | here {o l} : Up n d ((n, o) :: l) ((n, some d) :: l)
  | there {p l l'} : Up n d l l' → Up n d (p :: l) (p :: l')
theorem Up.names {n : Str} {d : D} {l l' : List (Str × Option D)} (u : Up n d l l') : l'.map (·.1) = l.map (·.1) := by
  induction u with
  | here => rfl
  | there _ ih => simp only [List.map_cons, ih]
theorem Up.has {n : Str} {d : D} {l l' : List (Str × Option D)} (u : Up n d l l') : n ∈ l.map (·.1) := by
  induction u with
  | here => exact .head _
  | there _ ih => exact .tail _ ih
theorem Up.mem {n : Str} {d : D} {l l' : List (Str × Option D)} (u : Up n d l l') (nd : (l.map (·.1)).Nodup) : ∀ p ∈ l', (p = (n, some d)) ∨ (p ∈ l ∧ p.1 ≠ n) := by
  induction u with
  | here =>
    intro p hp
    rcases List.mem_cons.mp hp with rfl | hp
    · exact .inl rfl
    · refine .inr ⟨.tail _ hp, fun e => ?_⟩
      rw [List.map_cons, List.nodup_cons] at nd
      exact nd.1 (List.mem_map.mpr ⟨p, hp, e⟩)
  | there u ih =>
    intro p hp
    rw [List.map_cons, List.nodup_cons] at nd
    rcases List.mem_cons.mp hp with rfl | hp
    · exact .inr ⟨.head _, fun e => nd.1 (e ▸ u.has)⟩
    · rcases ih nd.2 p hp with h | h
      · exact .inl h
      · exact .inr ⟨.tail _ h.1, h.2⟩
inductive UpC (n : Str) (d : D) : List (Str × Addr × Option D) → List (Str × Addr × Option D) → Prop
  | here {a o l} : UpC n d ((n, a, o) :: l) ((n, a, some d) :: l)
  | there {p l l'} : UpC n d l l' → UpC n d (p :: l) (p :: l')
inductive Sto (n : Str) (d : D) : St → St → Prop
  | loc {l l' cl mu} : Up n d l l' → Sto n d ⟨l, cl, mu⟩ ⟨l', cl, mu⟩
  | cel {l cl cl' mu} : UpC n d cl cl' → Sto n d ⟨l, cl, mu⟩ ⟨l, cl', mu⟩

/-- one own address is changed: the frame's dict, a cell, a mutable object -/
theorem Ok.but {X : Addr → Prop} {s : Shared} {h' : Heap} {tk : Nat} {x : Addr} (k : Ok g c X st s) (hx : x ∈ own c st) (hs : ∀ a o, a ≠ x → s.heap.get? a = some o → h'.get? a = some o) (hv : ∃ o, h'.get? x = some o) :
    Base g X { s with heap := h', toks := tk } ∧ (∀ a o, c.hI.get? a = some o → ¬ c.P a → h'.get? a = some o) ∧ Mv X s.heap X h' := by
  have hX := k.mine x hx
  have M : Mv X s.heap X h' := fun a o n e => ⟨n, hs a o (fun q => n (q ▸ hX.1)) e⟩
  refine ⟨⟨fun a o e => ?_, k.base.gens, k.base.os, fun a h => ?_⟩, fun a o e n => ?_, M⟩
  · obtain ⟨p, q⟩ := k.base.keep a o e
    exact M a o p q
  · by_cases q : a = x
    · exact q ▸ hv
    · obtain ⟨o, e⟩ := k.base.live a h
      exact ⟨o, hs a o q e⟩
  · refine hs a o (fun q => ?_) (k.kept a o e n)
    rcases hX.2 with z | z
    · exact n (q ▸ z)
    · rw [q, z] at e; cases e
theorem Ok.sto {X : Addr → Prop} {s : Shared} {n : Str} {d : D} {v : Value} {st' : St} {Q : Unit → Shared → Prop} (k : Ok g c X st s) (a : At X s.heap d v) (u : Sto n d st st')
    (q : ∀ h' tk, Ok g c X st' { s with heap := h', toks := tk } → Mv X s.heap X h' → Q () { s with heap := h', toks := tk }) : wpAny g.M c.A (storeName c.env n v) Q noE s := by
  have nd := k.nodup
  have nm := k.names
  unfold own at nd
  rw [List.nodup_cons] at nd
  cases u with
  | @loc l l' cl mu u =>
    obtain ⟨m, hm, r⟩ := k.loc
    have hn : c.env.kindOf n = some .local := by
      obtain ⟨p, hp, e⟩ := List.mem_map.mp u.has
      exact e ▸ (r p hp).1
    have ho : okName n = true := by
      obtain ⟨p, hp, e⟩ := List.mem_map.mp u.has
      exact e ▸ (r p hp).2.1
    refine wpAny_storeName_local hn hm (fun h' hns hsb => ?_) (by rw [k.cok.kind]; rfl)
    obtain ⟨B, kp, M⟩ := k.but (h' := h') (tk := s.toks + 1) (.head _) (fun a o n e => hsb.extBut a o n e) (let ⟨o, _, _, e, _⟩ := hns; ⟨o, e⟩)
    refine q h' _ ⟨k.cok, B, kp, k.xc, k.nodup, k.mine, by show (l'.map (·.1)).Nodup; rw [u.names]; exact nm, ⟨_, hns, fun p hp => ?_⟩, ?_, fun p hp => ?_⟩ M
    · rcases u.mem nm p hp with rfl | ⟨hp, ne⟩
      · exact ⟨hn, ho, fun d' e => ⟨v, by simp, by cases e; exact a.mv M⟩⟩
      · refine ⟨(r p hp).1, (r p hp).2.1, fun d' e => ?_⟩
        obtain ⟨v', x, y⟩ := (r p hp).2.2 d' e
        exact ⟨v', by simp [ne, x], y.mv M⟩
    · intro p hp
      obtain ⟨a, b, c', o, v, d, e, f⟩ := k.cel p hp
      exact ⟨a, b, c', o, v, hsb.extBut _ _ (fun q => nd.1 (q ▸ List.mem_append_left _ (List.mem_map_of_mem hp))) d, e, fun d' q => let ⟨v', x, y⟩ := f d' q; ⟨v', x, y.mv M⟩⟩
    · exact (k.mu p hp).mv M fun o e => hsb.extBut _ _ (fun q => nd.1 (q ▸ List.mem_append_right _ (List.mem_map_of_mem hp))) e
  | @cel l cl cl' mu u =>
    have big : ∀ {cl cl' : List (Str × Addr × Option D)}, UpC n d cl cl' → ∃ pre post ca o, cl = pre ++ (n, ca, o) :: post ∧ cl' = pre ++ (n, ca, some d) :: post := by
      intro cl cl' u
      induction u with
      | @here ca o l => exact ⟨[], l, ca, o, rfl, rfl⟩
      | @there p l l' _ ih =>
        obtain ⟨pre, post, ca, o, e1, e2⟩ := ih
        exact ⟨p :: pre, post, ca, o, by rw [e1]; rfl, by rw [e2]; rfl⟩
    obtain ⟨pre, post, ca, o, rfl, rfl⟩ := big u
    obtain ⟨h1, h2, h3, ob, v₀, h4, h5, _⟩ := k.cel (n, ca, o) (by simp)
    refine wpAny_storeName_cell k.cok.kind h1 h3 ⟨ob, h4, h5⟩ fun h' hc hsb => ?_
    have mem : ca ∈ own c ⟨l, pre ++ (n, ca, o) :: post, mu⟩ := by unfold own; simp
    obtain ⟨o', ho', hd'⟩ := hc
    obtain ⟨B, kp, M⟩ := k.but (h' := h') (tk := s.toks) mem (fun a o n e => hsb.extBut a o n e) ⟨o', ho'⟩
    have hL : c.env.locals ≠ ca := fun e => nd.1 (by rw [e]; simp)
    have own_eq : own c ⟨l, pre ++ (n, ca, some d) :: post, mu⟩ = own c ⟨l, pre ++ (n, ca, o) :: post, mu⟩ := by unfold own; simp
    have nd2 := nd.2
    simp only [List.map_append, List.map_cons, List.append_assoc, List.cons_append] at nd2
    have nd3 := (List.nodup_append.mp nd2)
    have ndc := nd3.2.1
    rw [List.nodup_cons] at ndc
    refine q h' _ ⟨k.cok, B, kp, k.xc, own_eq ▸ k.nodup, own_eq ▸ k.mine, nm, ?_, ?_, ?_⟩ M
    · obtain ⟨m, hm, r⟩ := k.loc
      exact ⟨m, hm.sameBut hsb hL, fun p hp => ⟨(r p hp).1, (r p hp).2.1, fun d e => let ⟨v, a, b⟩ := (r p hp).2.2 d e; ⟨v, a, b.mv M⟩⟩⟩
    · intro p hp
      have old : p ∈ pre ++ (n, ca, o) :: post → p.2.1 ≠ ca → c.env.kindOf p.1 = some .cell ∧ okName p.1 = true ∧ c.env.cells.lookup p.1 = some p.2.1 ∧ ∃ o v, h'.get? p.2.1 = some o ∧ o.data = .cell v ∧ ∀ d, p.2.2 = some d → ∃ v', v = some v' ∧ At X h' d v' := fun hp ne => by
        obtain ⟨a, b, c', o, v, d, e, f⟩ := k.cel p hp
        exact ⟨a, b, c', o, v, hsb.extBut _ _ ne d, e, fun d' q => let ⟨v', x, y⟩ := f d' q; ⟨v', x, y.mv M⟩⟩
      rcases List.mem_append.mp hp with hp | hp
      · exact old (List.mem_append_left _ hp) fun e => nd3.2.2 _ (List.mem_map_of_mem (f := fun x : Str × Addr × Option D => x.2.1) hp) _ (.head _) e
      · rcases List.mem_cons.mp hp with rfl | hp
        · exact ⟨h1, h2, h3, o', some v, ho', hd', fun d' e => ⟨v, rfl, by cases e; exact a.mv M⟩⟩
        · exact old (List.mem_append_right _ (.tail _ hp)) fun e => ndc.1 (e ▸ List.mem_append_left _ (List.mem_map_of_mem (f := fun x : Str × Addr × Option D => x.2.1) hp))
    · intro p hp
      exact (k.mu p hp).mv M fun o e => hsb.extBut p.1 o (fun q : p.1 = ca => ndc.1 (by rw [← q]; exact List.mem_append_right _ (List.mem_map_of_mem (f := fun x : Addr × Mu => x.1) hp))) e
end
end Mine
open PySem PySem.W PySem.Calls PyProof.Rows
set_option maxRecDepth 100000
set_option Elab.async false
set_option maxHeartbeats 4000000
set_option linter.unusedVariables false
set_option linter.unusedSimpArgs false
namespace Mine

section
variable {g : Gl} {c : Ctx} {st : St} {Q : D → St → Prop} {a b : Int}
theorem PostU.up {X X' : Addr → Prop} {s s' : Shared} {Q : St → Prop} {v : Unit} {s₂ : Shared} (m : Mv X s.heap X' s'.heap) (p : PostU g c X' s' Q v s₂) : PostU g c X s Q v s₂ := by
  obtain ⟨st', X₂, k, m', q⟩ := p
  exact ⟨st', X₂, k, m.trans m', q⟩
theorem PostF.up {X X' : Addr → Prop} {s s' : Shared} {Q : Fl → St → Prop} {v : Flow} {s₂ : Shared} (m : Mv X s.heap X' s'.heap) (p : PostF g c X' s' Q v s₂) : PostF g c X s Q v s₂ := by
  obtain ⟨r, st', X₂, k, m', f, q⟩ := p
  exact ⟨r, st', X₂, k, m.trans m', f, q⟩

/-! statements -/
noncomputable def Kont (g : Gl) (c : Ctx) (xs : List Stmt) (Q : Fl → St → Prop) : Fl → St → Prop
  | .next, st => XW g c xs st Q
  | .brk, st => Q .brk st
  | .cont, st => Q .cont st
  | .ret d, st => Q (.ret d) st
theorem ko_next {xs : List Stmt} {Q : Fl → St → Prop} (h : XW g c xs st Q) : Kont g c xs Q .next st := h
theorem ko_ret {xs : List Stmt} {Q : Fl → St → Prop} {d : D} (h : Q (.ret d) st) : Kont g c xs Q (.ret d) st := h
theorem ko_brk {xs : List Stmt} {Q : Fl → St → Prop} (h : Q .brk st) : Kont g c xs Q .brk st := h
theorem xw_nil {Q : Fl → St → Prop} (q : Q .next st) : XW g c [] st Q := fun X s k => wpAny_execs_nil ⟨.next, st, X, k, .refl _ _, rfl, q⟩
theorem xw_cons {x : Stmt} {xs : List Stmt} {Q : Fl → St → Prop} (h : XW1 g c x st (Kont g c xs Q)) : XW g c (x :: xs) st Q := fun X s k => by
  refine wpAny_execs_cons (wpAny_mono (h X s k) (fun f s' h' => ?_) fun _ _ z => z)
  obtain ⟨r, st', X', k', m', ff, q⟩ := h'
  cases r with
  | next =>
    obtain rfl : f = .next := ff
    exact wpAny_mono (q X' s' k') (fun _ _ z => PostF.up m' z) fun _ _ z => z
  | brk =>
    obtain rfl : f = .brk := ff
    exact ⟨.brk, st', X', k', m', rfl, q⟩
  | cont =>
    obtain rfl : f = .cont := ff
    exact ⟨.cont, st', X', k', m', rfl, q⟩
  | ret d =>
    obtain ⟨v, rfl, av⟩ := ff
    exact ⟨.ret d, st', X', k', m', ⟨v, rfl, av⟩, q⟩
noncomputable def plainD : D → Bool
  | .none => true
  | .int _ => true
  | .bool _ => true
  | _ => false
noncomputable abbrev KRet (Q : Fl → St → Prop) : D → St → Prop := fun d => Q (.ret d)
noncomputable abbrev KExpr (Q : Fl → St → Prop) : D → St → Prop := fun d st' => plainD d = true ∧ Q .next st'
inductive KSto (x : Str) (Q : St → Prop) (d : D) (st : St) : Prop
  | mk (st' : St) (u : Sto x d st st') (q : Q st')
theorem xw_ret {e : Expr} {pos : Pos} {Q : Fl → St → Prop} (h : EW g c e st (KRet Q)) : XW1 g c (.Return (some e) pos) st Q := fun X s k =>
  wpAny_Return_some (wpAny_mono (h X s k) (fun v s' ⟨d, st', X', k', m', a', q⟩ => ⟨.ret d, st', X', k', m', ⟨v, rfl, a'⟩, q⟩) fun _ _ z => z)
theorem xw_if {t : Expr} {xs ys : List Stmt} {pos : Pos} {Q : Fl → St → Prop} (h : BW g c t st (KIf (KX g c xs Q) (KX g c ys Q))) : XW1 g c (.If t xs ys pos) st Q := fun X s k => by
  refine wpAny_If (wpAny_mono (h X s k) (fun b s' h' => ?_) fun _ _ z => z)
  obtain ⟨st', X', k', m', ht, hf⟩ := h'
  cases b with
  | true => exact wpAny_mono (ht rfl X' s' k') (fun _ _ z => PostF.up m' z) fun _ _ z => z
  | false => exact wpAny_mono (hf rfl X' s' k') (fun _ _ z => PostF.up m' z) fun _ _ z => z
/-- after an if whose branches go on alike: cut -/
theorem xw_mono {x : Stmt} {Q Q' : Fl → St → Prop} (h : XW1 g c x st Q) (q : ∀ d s, Q d s → Q' d s) : XW1 g c x st Q' :=
  fun X s k => wpAny_mono (h X s k) (fun _ _ ⟨d, st', X', a, b, e, f⟩ => ⟨d, st', X', a, b, e, q _ _ f⟩) fun _ _ z => z

noncomputable def notComp : Expr → Bool
  | .ListComp .. | .SetComp .. | .DictComp .. => false
  | _ => true
theorem notComp_swaps {e : Expr} {t : Option Expr} {n : Nat} {env : Env} (h : notComp e = true) : swapsWith e t n env = pure false := by cases e <;> first | rfl | cases h
theorem Ok.inter {X : Addr → Prop} {s : Shared} (k : Ok g c X st s) : interactive c.env = false := by unfold interactive; rw [k.cok.kind]; rfl
theorem xw_expr {e : Expr} {pos : Pos} {Q : Fl → St → Prop} (hc : notComp e = true) (h : EW g c e st (KExpr Q)) : XW1 g c (.Expr e pos) st Q := fun X s k => by
  refine wpAny_Expr (wpAny_mono (h X s k) (fun v s' h' => ?_) fun _ _ z => z) k.inter (notComp_swaps hc)
  obtain ⟨d, st', X', k', m', a', hd, q⟩ := h'
  have fin : PostF g c X s Q .next s' := ⟨.next, st', X', k', m', rfl, q⟩
  cases d with
  | none => obtain rfl : v = .none := a'; exact fin
  | int i => obtain ⟨t, rfl⟩ := a'; exact fin
  | bool b => obtain rfl : v = .bool b := a'; exact fin
  | _ => cases hd
theorem xw_assign {x : Str} {p pos : Pos} {e : Expr} {Q : Fl → St → Prop} (hc : notComp e = true) (h : EW g c e st (KSto x (Q .next))) : XW1 g c (.Assign [.Name x p] e pos) st Q := fun X s k => by
  refine wpAny_Assign_Name (wpAny_mono (h X s k) (fun v s' h' => ?_) fun _ _ z => z) (notComp_swaps hc)
  obtain ⟨d, st₁, X₁, k₁, m₁, a₁, st₂, u, q⟩ := h'
  exact k₁.sto a₁ u fun h' tk k' m' => ⟨.next, st₂, X₁, k', m₁.trans m', rfl, q⟩

/-! assignment to a target -/
noncomputable def ASW (g : Gl) (c : Ctx) (t : Expr) (d : D) (st : St) (Q : St → Prop) : Prop :=
  ∀ X s v, Ok g c X st s → At X s.heap d v → wpAny g.M c.A (assign t c.env v) (PostU g c X s Q) noE s
noncomputable def ASL (g : Gl) (c : Ctx) (ts : List Expr) (ds : List D) (st : St) (Q : St → Prop) : Prop :=
  ∀ X s vs, Ok g c X st s → Ats X s.heap ds vs → wpAny g.M c.A (assignInOrder ((assignEach ts c.env).map (·.2)) vs) (PostU g c X s Q) noE s
theorem as_name {x : Str} {p : Pos} {d : D} {Q : St → Prop} (h : KSto x Q d st) : ASW g c (.Name x p) d st Q := fun X s v k a => by
  obtain ⟨st', u, q⟩ := h
  exact assign_Name (k.sto a u fun h' tk k' m' => ⟨st', X, k', m', q⟩)
theorem assignEach_cons {e : Expr} {es : List Expr} {env : Env} (h : notStar e = true) : assignEach (e :: es) env = (false, assign e env) :: assignEach es env := by cases e <;> first | rfl | cases h
theorem as_nil {Q : St → Prop} (q : Q st) : ASL g c [] [] st Q := fun X s vs k a => by
  obtain rfl : vs = [] := a
  exact wpAny_pure ⟨st, X, k, .refl _ _, q⟩
noncomputable abbrev KAs (g : Gl) (c : Ctx) (ts : List Expr) (ds : List D) (Q : St → Prop) : St → Prop := fun st₁ => ASL g c ts ds st₁ Q
noncomputable abbrev KAsg (g : Gl) (c : Ctx) (t : Expr) (Q : St → Prop) : D → St → Prop := fun d st₁ => ASW g c t d st₁ Q
theorem as_cons {t : Expr} {ts : List Expr} {d : D} {ds : List D} {Q : St → Prop} (ht : notStar t = true) (h : ASW g c t d st (KAs g c ts ds Q)) : ASL g c (t :: ts) (d :: ds) st Q := fun X s vs k a => by
  obtain ⟨v, r, rfl, av, ar⟩ := a
  rw [assignEach_cons ht]
  show wpAny g.M c.A (do holding r (assign t c.env v); assignInOrder ((assignEach ts c.env).map (·.2)) r) _ _ _
  refine wpAny_bind (wpAny_holding (wpAny_mono (h X s v k av) (fun _ s₁ h₁ => ?_) fun _ _ z => z))
  obtain ⟨st₁, X₁, k₁, m₁, q⟩ := h₁
  exact wpAny_mono (q X₁ s₁ r k₁ (ar.mv m₁)) (fun _ _ z => PostU.up m₁ z) fun _ _ z => z
noncomputable def noStars : List Expr → Bool
  | [] => true
  | e :: es => notStar e && noStars es
theorem assignEach_plain {env : Env} : ∀ {ts : List Expr}, noStars ts = true → (assignEach ts env).findIdx? (·.1) = Option.none ∧ (assignEach ts env).length = ts.length
  | [], _ => ⟨rfl, rfl⟩
  | t :: ts, h => by
    obtain ⟨h1, h2⟩ := Bool.and_eq_true_iff.mp h
    obtain ⟨i1, i2⟩ := assignEach_plain (env := env) h2
    rw [assignEach_cons h1]
    refine ⟨?_, by simp [i2]⟩
    rw [List.findIdx?_cons]
    simp [i1]
theorem as_tup {ts : List Expr} {n : Nat} {p : Pos} {ds : List D} {Q : St → Prop} (hs : noStars ts = true) (hl : ts.length = ds.length) (h : ASL g c ts ds st Q) : ASW g c (.Tuple ts n p) (.tup ds) st Q := fun X s v k av => by
  obtain ⟨t, vs, rfl, nt, ht, ar⟩ := av
  obtain ⟨h1, h2⟩ := assignEach_plain (env := c.env) hs
  refine assign_Tuple_tuple k.cok.room.handled ht (by rw [h2, hl, List.size_toArray, ar.length]) h1 fun h' he => ?_
  obtain ⟨k', m'⟩ := k.grow (s' := { s with heap := h' }) (fun a o e => he a o (Nat.ne_of_lt (Heap.lt_size e)) e) rfl rfl
  exact wpAny_mono (h X { s with heap := h' } vs k' (ar.mv m')) (fun _ _ z => PostU.up m' z) fun _ _ z => z

/-! several targets at once -/
theorem xw_unpack {ts : List Expr} {n : Nat} {p pos : Pos} {e : Expr} {Q : Fl → St → Prop} (hc : notComp e = true) (hw : ∀ X s, Ok g c X st s → swappedStores [.Tuple ts n p] e c.env = pure Option.none)
    (h : EW g c e st (KAsg g c (.Tuple ts n p) (Q .next))) : XW1 g c (.Assign [.Tuple ts n p] e pos) st Q := fun X s k => by
  refine Assign_Tuple (wpAny_mono (h X s k) (fun v s' h' => ?_) fun _ _ z => z) (show swapsWith e (some (.Tuple ts n p)) pos.line c.env = pure false from notComp_swaps hc) (hw X s k)
  obtain ⟨d, st₁, X₁, k₁, m₁, a₁, q⟩ := h'
  exact wpAny_mono (q X₁ s' v k₁ a₁) (fun _ _ ⟨st₂, X₂, k₂, m₂, q⟩ => ⟨.next, st₂, X₂, k₂, m₁.trans m₂, rfl, q⟩) fun _ _ z => z
/-- no tuple stands on the right, or not two or three targets, or constants -/
noncomputable def swNo (ts : List Expr) : Expr → Bool
  | .Tuple vs _ _ => !(ts.length == 2 || ts.length == 3) || vs.length != ts.length || vs.all (foldedForSure 8) || ts.any fun | .Name .. => false | _ => true
  | _ => true
theorem names_few {f : Expr → Option Str} (hf : ∀ e, (match e with | .Name .. => false | _ => true) = true → f e = Option.none) : ∀ {ts : List Expr}, (ts.any fun | .Name .. => false | _ => true) = true → (ts.filterMap f).length < ts.length
  | [], h => by simp at h
  | t :: ts, h => by
    rw [List.any_cons, Bool.or_eq_true] at h
    rcases h with h | h
    · have e1 : (t :: ts).filterMap f = ts.filterMap f := by rw [List.filterMap_cons, hf t h]
      rw [e1]
      exact Nat.lt_succ_of_le (List.length_filterMap_le ..)
    · have ih := names_few hf h
      have e1 : ((t :: ts).filterMap f).length ≤ (ts.filterMap f).length + 1 := by
        rw [List.filterMap_cons]
        split
        · exact Nat.le_succ _
        · exact Nat.le_refl _
      rw [List.length_cons]
      (first | lia | omega)
theorem sw_none {ts : List Expr} {n : Nat} {p : Pos} {e : Expr} {env : Env} (h : swNo ts e = true) : swappedStores [.Tuple ts n p] e env = pure Option.none := by
  cases e with
  | Tuple vs x y =>
    unfold swappedStores
    dsimp only
    simp only [swNo, Bool.or_eq_true] at h
    by_cases h1 : (!(ts.length == 2 || ts.length == 3) || vs.length != ts.length || env.blockKind != .function) = true
    · rw [if_pos h1]
    · rw [if_neg h1]
      simp only [Bool.or_eq_true, not_or, Bool.not_eq_true] at h1
      rcases h with ((h | h) | h) | h
      · rw [h1.1.1] at h; cases h
      · rw [h1.1.2] at h; cases h
      · have hall : vs.all (foldedForSure 8) = true := h
        dsimp only [bind, pure]
        repeat (first | rfl | (split))
        all_goals first | rfl | (simp_all)
      · have q : ∀ m, (ts.filterMap fun
            | .Name id pos => if env.kindOf id == some .local && pos.line == m then some id else Option.none
            | _ => Option.none).length < ts.length := fun m => names_few (fun e he => by cases e <;> first | rfl | cases he) h
        have q' := q ((ts.head?.map (·.pos.line)).getD 0)
        split
        · rfl
        · rw [if_pos (by simp only [Bool.or_eq_true, bne_iff_ne, ne_eq]; exact .inl (Nat.ne_of_lt q'))]
  | _ => rfl
theorem xw_unpack' {ts : List Expr} {n : Nat} {p pos : Pos} {e : Expr} {Q : Fl → St → Prop} (hc : notComp e = true) (hw : swNo ts e = true)
    (h : EW g c e st (KAsg g c (.Tuple ts n p) (Q .next))) : XW1 g c (.Assign [.Tuple ts n p] e pos) st Q := xw_unpack hc (fun _ _ _ => sw_none hw) h

/-- a name among two or three targets is a cell's -/
theorem sw_cell {ts : List Expr} {n : Nat} {p : Pos} {e : Expr} {env : Env} {x : Str} {xp : Pos} (hm : .Name x xp ∈ ts) (hk : env.kindOf x = some .cell) (h : ∀ vs a b, e = .Tuple vs a b → vs.all (constantsAlone 8) = false ∨ ts.length = ts.length) : swappedStores [.Tuple ts n p] e env = pure Option.none := by
  cases e with
  | Tuple vs u y =>
    unfold swappedStores
    dsimp only
    by_cases h1 : (!(ts.length == 2 || ts.length == 3) || vs.length != ts.length || env.blockKind != .function) = true
    · rw [if_pos h1]
    · rw [if_neg h1]
      have few : ∀ (m : Nat), (ts.filterMap fun
            | .Name id pos => if env.kindOf id == some .local && pos.line == m then some id else Option.none
            | _ => Option.none).length < ts.length := fun m => by
        clear h h1
        induction ts with
        | nil => cases hm
        | cons t ts ih =>
          rcases List.mem_cons.mp hm with rfl | hm
          · rw [List.filterMap_cons]
            have : (env.kindOf x == some NameKind.local && xp.line == m) = false := by rw [hk]; rfl
            simp only [this]
            exact Nat.lt_succ_of_le (List.length_filterMap_le ..)
          · have e1 := ih hm
            rw [List.filterMap_cons, List.length_cons]
            split
            · exact Nat.lt_succ_of_lt e1
            · rw [List.length_cons]; exact Nat.succ_lt_succ e1
      have q' := few ((ts.head?.map (·.pos.line)).getD 0)
      split
      · rfl
      · rw [if_pos (by simp only [Bool.or_eq_true, bne_iff_ne, ne_eq]; exact .inl (Nat.ne_of_lt q'))]
  | _ => rfl
theorem Ok.kindC {X : Addr → Prop} {s : Shared} (k : Ok g c X st s) {x : Str} {ca : Addr} {o : Option D} (h : (x, ca, o) ∈ st.cel) : c.env.kindOf x = some .cell := (k.cel _ h).1
/-- one of the targets is the first cell's name -/
theorem xw_unpackC {ts : List Expr} {n : Nat} {p pos xp : Pos} {e : Expr} {Q : Fl → St → Prop} {l : List (Str × Option D)} {cl : List (Str × Addr × Option D)} {mu : List (Addr × Mu)} {x : Str} (hc : notComp e = true) (hk : c.env.kindOf x = some .cell) (hm : .Name x xp ∈ ts)
    (h : EW g c e ⟨l, cl, mu⟩ (KAsg g c (.Tuple ts n p) (Q .next))) : XW1 g c (.Assign [.Tuple ts n p] e pos) ⟨l, cl, mu⟩ Q :=
  xw_unpack hc (fun X s k => sw_cell hm hk fun _ _ _ _ => .inr rfl) h

/-- two or three plain names, stored from the last -/
theorem Up.kind {X : Addr → Prop} {s : Shared} {n : Str} {d : D} {l l' cl mu} (k : Ok g c X ⟨l, cl, mu⟩ s) (u : Up n d l l') : c.env.kindOf n = some .local := by
  obtain ⟨m, hm, r⟩ := k.loc
  obtain ⟨p, hp, e⟩ := List.mem_map.mp u.has
  exact e ▸ (r p hp).1
theorem Ok.block {X : Addr → Prop} {s : Shared} (k : Ok g c X st s) : c.env.blockKind = .function := by unfold Env.blockKind; rw [k.cok.kind]; rfl
theorem any_two {f : Expr → Bool} (hf : ∀ e, notStar e = true → f e = false) {v₁ v₂ : Expr} (h1 : notStar v₁ = true) (h2 : notStar v₂ = true) : ¬ ([v₁, v₂].any f) = true := by
  simp only [List.any_cons, List.any_nil, hf _ h1, hf _ h2]; decide
theorem any_three {f : Expr → Bool} (hf : ∀ e, notStar e = true → f e = false) {v₁ v₂ v₃ : Expr} (h1 : notStar v₁ = true) (h2 : notStar v₂ = true) (h3 : notStar v₃ = true) : ¬ ([v₁, v₂, v₃].any f) = true := by
  simp only [List.any_cons, List.any_nil, hf _ h1, hf _ h2, hf _ h3]; decide
theorem pos_name {a : Str} {p : Pos} : (Expr.Name a p).pos = p := rfl
theorem swapped_two {a b : Str} {pa pb p vp : Pos} {v₁ v₂ : Expr} {n m : Nat} {env : Env} (hb : env.blockKind = .function) (ka : env.kindOf a = some .local) (kb : env.kindOf b = some .local) (hl : (pb.line == pa.line) = true) (hab : (([a, b] : List Str).eraseDups.length != 2) = false)
    (h1 : notStar v₁ = true) (h2 : notStar v₂ = true) (hf : ([v₁, v₂].all (foldedForSure 8)) = false) (hc : ([v₁, v₂].all (constantsAlone 8)) = false) :
    swappedStores [.Tuple [.Name a pa, .Name b pb] n p] (.Tuple [v₁, v₂] m vp) env = pure (some [a, b]) := by
  unfold swappedStores
  dsimp only
  rw [hb, if_neg (by simp), if_neg (any_two (fun e he => by cases e <;> first | rfl | cases he) h1 h2)]
  simp only [List.filterMap_cons, List.filterMap_nil, List.head?_cons, Option.map_some, Option.getD_some, ka, kb, pos_name, hl, beq_self_eq_true, Bool.and_self, Bool.true_and, if_true]
  rw [if_neg (by rw [show ([a, b] : List Str).length = 2 from rfl, hab]; simp), hf, if_neg (by decide), hc, if_neg (by decide)]
inductive Nm (n : Str) : List (Str × Option D) → Prop
  | here {o l} : Nm n ((n, o) :: l)
  | there {p l} : Nm n l → Nm n (p :: l)
theorem Nm.kind {X : Addr → Prop} {s : Shared} {n : Str} (k : Ok g c X st s) (u : Nm n st.loc) : c.env.kindOf n = some .local := by
  obtain ⟨m, hm, r⟩ := k.loc
  have : n ∈ st.loc.map (·.1) := by
    generalize st.loc = l at u
    induction u with
    | here => exact .head _
    | there _ ih => exact .tail _ ih
  obtain ⟨p, hp, e⟩ := List.mem_map.mp this
  exact e ▸ (r p hp).1
inductive KTwo (a b : Str) (Q : St → Prop) (ds : List D) (st : St) : Prop
  | mk (d₁ d₂ : D) (l l₁ l₂ : List (Str × Option D)) (cl : List (Str × Addr × Option D)) (mu : List (Addr × Mu)) (e : ds = [d₁, d₂]) (e' : st = ⟨l, cl, mu⟩) (ub : Up b d₂ l l₁) (ua : Up a d₁ l₁ l₂) (q : Q ⟨l₂, cl, mu⟩)
inductive KTwoT (a b : Str) (Q : St → Prop) (d : D) (st : St) : Prop
  | mk (ds : List D) (e : d = .tup ds) (k : KTwo a b Q ds st)
theorem xw_two {a b : Str} {pa pb p vp pos : Pos} {v₁ v₂ : Expr} {n m : Nat} {Q : Fl → St → Prop} (hl : (pb.line == pa.line) = true) (hab : (([a, b] : List Str).eraseDups.length != 2) = false)
    (h1 : notStar v₁ = true) (h2 : notStar v₂ = true) (hf : ([v₁, v₂].all (foldedForSure 8)) = false) (hc : ([v₁, v₂].all (constantsAlone 8)) = false) (na : Nm a st.loc) (nb : Nm b st.loc)
    (h : LW g c [v₁, v₂] st (KTwo a b (Q .next))) :
    XW1 g c (.Assign [.Tuple [.Name a pa, .Name b pb] n p] (.Tuple [v₁, v₂] m vp) pos) st Q := fun X s k => by
  have hv : EW g c (.Tuple [v₁, v₂] m vp) st (KTwoT a b (Q .next)) := ew_tup rfl fun pos X s k => wpAny_mono (h pos X s k) (fun _ _ ⟨ds, st', X', k', m', a', hl, z⟩ => ⟨ds, st', X', k', m', a', hl, ds, rfl, z⟩) fun _ _ z => z
  refine Assign_Tuple_swapped (names := [a, b]) (wpAny_mono (hv X s k) (fun v s₁ h₁ => ?_) fun _ _ z => z) (by rfl) (swapped_two k.block (na.kind k) (nb.kind k) hl hab h1 h2 hf hc)
  obtain ⟨d, st₁, X₁, k₁, m₁, a₁, _, rfl, d₁, d₂, l, l₁, l₂, cl, mu, rfl, rfl, ub, ua, q⟩ := h₁
  obtain ⟨t, vs, rfl, nt, ht, ar⟩ := a₁
  obtain ⟨w₁, _, rfl, a1, w₂, _, rfl, a2, e⟩ := ar
  obtain rfl : _ = [] := e
  have ez : ([a, b] : List Str).length = ([w₁, w₂] : List Value).toArray.size := rfl
  rw [ez]
  refine unpackItems_tuple (items := ([w₁, w₂] : List Value).toArray) k₁.cok.room.handled ht fun h' he => ?_
  obtain ⟨k', m'⟩ := k₁.grow (s' := { s₁ with heap := h' }) (fun a o e => he a o (Nat.ne_of_lt (Heap.lt_size e)) e) rfl rfl
  show wpAny g.M c.A (holding [w₁] (bindName c.env b w₂) >>= fun _ => holding [] (bindName c.env a w₁) >>= fun _ => pure ()) _ _ _
  refine wpAny_bind (wpAny_holding (wpAny_bindName (k'.sto (a2.mv m') (.loc ub) fun h₂ t₂ k₂ m₂ => ?_)))
  exact wpAny_bind (wpAny_holding (wpAny_bindName (k₂.sto ((a1.mv m').mv m₂) (.loc ua) fun h₃ t₃ k₃ m₃ => wpAny_pure ⟨.next, _, _, k₃, ((m₁.trans m').trans m₂).trans m₃, rfl, q⟩)))
theorem swapped_three {a b d : Str} {pa pb pd p vp : Pos} {v₁ v₂ v₃ : Expr} {n m : Nat} {env : Env} (hb : env.blockKind = .function) (ka : env.kindOf a = some .local) (kb : env.kindOf b = some .local) (kd : env.kindOf d = some .local) (hl : (pb.line == pa.line) = true) (hl' : (pd.line == pa.line) = true)
    (hab : (([a, b, d] : List Str).eraseDups.length != 3) = false) (h1 : notStar v₁ = true) (h2 : notStar v₂ = true) (h3 : notStar v₃ = true) (hf : ([v₁, v₂, v₃].all (foldedForSure 8)) = false) (hc : ([v₁, v₂, v₃].all (constantsAlone 8)) = false) :
    swappedStores [.Tuple [.Name a pa, .Name b pb, .Name d pd] n p] (.Tuple [v₁, v₂, v₃] m vp) env = pure (some [a, b, d]) := by
  unfold swappedStores
  dsimp only
  rw [hb, if_neg (by simp), if_neg (any_three (fun e he => by cases e <;> first | rfl | cases he) h1 h2 h3)]
  simp only [List.filterMap_cons, List.filterMap_nil, List.head?_cons, Option.map_some, Option.getD_some, ka, kb, kd, pos_name, hl, hl', beq_self_eq_true, Bool.and_self, Bool.true_and, if_true]
  rw [if_neg (by rw [show ([a, b, d] : List Str).length = 3 from rfl, hab]; simp), hf, if_neg (by decide), hc, if_neg (by decide)]
inductive KThree (a b d : Str) (Q : St → Prop) (ds : List D) (st : St) : Prop
  | mk (d₁ d₂ d₃ : D) (l l₁ l₂ l₃ : List (Str × Option D)) (cl : List (Str × Addr × Option D)) (mu : List (Addr × Mu)) (e : ds = [d₁, d₂, d₃]) (e' : st = ⟨l, cl, mu⟩) (ud : Up d d₃ l l₁) (ub : Up b d₂ l₁ l₂) (ua : Up a d₁ l₂ l₃) (q : Q ⟨l₃, cl, mu⟩)
inductive KThreeT (a b d : Str) (Q : St → Prop) (x : D) (st : St) : Prop
  | mk (ds : List D) (e : x = .tup ds) (k : KThree a b d Q ds st)
theorem xw_three {a b d : Str} {pa pb pd p vp pos : Pos} {v₁ v₂ v₃ : Expr} {n m : Nat} {Q : Fl → St → Prop} (hl : (pb.line == pa.line) = true) (hl' : (pd.line == pa.line) = true) (hab : (([a, b, d] : List Str).eraseDups.length != 3) = false)
    (h1 : notStar v₁ = true) (h2 : notStar v₂ = true) (h3 : notStar v₃ = true) (hf : ([v₁, v₂, v₃].all (foldedForSure 8)) = false) (hc : ([v₁, v₂, v₃].all (constantsAlone 8)) = false) (na : Nm a st.loc) (nb : Nm b st.loc) (nd : Nm d st.loc)
    (h : LW g c [v₁, v₂, v₃] st (KThree a b d (Q .next))) :
    XW1 g c (.Assign [.Tuple [.Name a pa, .Name b pb, .Name d pd] n p] (.Tuple [v₁, v₂, v₃] m vp) pos) st Q := fun X s k => by
  have hv : EW g c (.Tuple [v₁, v₂, v₃] m vp) st (KThreeT a b d (Q .next)) := ew_tup rfl fun pos X s k => wpAny_mono (h pos X s k) (fun _ _ ⟨ds, st', X', k', m', a', hl, z⟩ => ⟨ds, st', X', k', m', a', hl, ds, rfl, z⟩) fun _ _ z => z
  refine Assign_Tuple_swapped (names := [a, b, d]) (wpAny_mono (hv X s k) (fun v s₁ h₁ => ?_) fun _ _ z => z) (by rfl) (swapped_three k.block (na.kind k) (nb.kind k) (nd.kind k) hl hl' hab h1 h2 h3 hf hc)
  obtain ⟨x, st₁, X₁, k₁, m₁, a₁, _, rfl, d₁, d₂, d₃, l, l₁, l₂, l₃, cl, mu, rfl, rfl, ud, ub, ua, q⟩ := h₁
  obtain ⟨t, vs, rfl, nt, ht, ar⟩ := a₁
  obtain ⟨w₁, _, rfl, a1, w₂, _, rfl, a2, w₃, _, rfl, a3, e⟩ := ar
  obtain rfl : _ = [] := e
  have ez : ([a, b, d] : List Str).length = ([w₁, w₂, w₃] : List Value).toArray.size := rfl
  rw [ez]
  refine unpackItems_tuple (items := ([w₁, w₂, w₃] : List Value).toArray) k₁.cok.room.handled ht fun h' he => ?_
  obtain ⟨k', m'⟩ := k₁.grow (s' := { s₁ with heap := h' }) (fun a o e => he a o (Nat.ne_of_lt (Heap.lt_size e)) e) rfl rfl
  show wpAny g.M c.A (holding [w₂, w₁] (bindName c.env d w₃) >>= fun _ => holding [w₁] (bindName c.env b w₂) >>= fun _ => holding [] (bindName c.env a w₁) >>= fun _ => pure ()) _ _ _
  refine wpAny_bind (wpAny_holding (wpAny_bindName (k'.sto (a3.mv m') (.loc ud) fun h₂ t₂ k₂ m₂ => ?_)))
  refine wpAny_bind (wpAny_holding (wpAny_bindName (k₂.sto ((a2.mv m').mv m₂) (.loc ub) fun h₃ t₃ k₃ m₃ => ?_)))
  exact wpAny_bind (wpAny_holding (wpAny_bindName (k₃.sto (((a1.mv m').mv m₂).mv m₃) (.loc ua) fun h₄ t₄ k₄ m₄ => wpAny_pure ⟨.next, _, _, k₄, (((m₁.trans m').trans m₂).trans m₃).trans m₄, rfl, q⟩)))
end
end Mine
open PySem PySem.W PySem.Calls PyProof.Rows
set_option maxRecDepth 100000
set_option Elab.async false
set_option maxHeartbeats 4000000
set_option linter.unusedVariables false
set_option linter.unusedSimpArgs false
namespace Mine

/-! contracts -/
structure Bk (g : Gl) (X : Addr → Prop) (mu : List (Addr × Mu)) (s : Shared) : Prop where
  base : Base g X s
  nodup : (mu.map (·.1)).Nodup
  mine : ∀ p ∈ mu, X p.1 ∧ MAt X s.heap p.1 p.2
structure After (g : Gl) (X : Addr → Prop) (mu : List (Addr × Mu)) (s : Shared) (Q : D → List (Addr × Mu) → Prop) (v : Value) (s' : Shared) (d : D) (mu' : List (Addr × Mu)) (X' : Addr → Prop) : Prop where
  bk : Bk g X' mu' s'
  mv : Mv X s.heap X' s'.heap
  up : ∀ a, X a → X' a
  kept : ∀ a o, s.heap.get? a = some o → a ∉ mu.map (·.1) → s'.heap.get? a = some o
  fresh : ∀ p ∈ mu', p.1 ∈ mu.map (·.1) ∨ s.heap.get? p.1 = Option.none
  at_ : At X' s'.heap d v
  q : Q d mu'
inductive Ret (g : Gl) (X : Addr → Prop) (mu : List (Addr × Mu)) (s : Shared) (Q : D → List (Addr × Mu) → Prop) (r : Result) (s' : Shared) : Prop
  | mk (v : Value) (e : r = .ok (.ret v)) (d : D) (mu' : List (Addr × Mu)) (X' : Addr → Prop) (z : After g X mu s Q v s' d mu' X')
noncomputable def CallW (g : Gl) (n : Nat) (f : Value) (ds : List D) (mu : List (Addr × Mu)) (Q : D → List (Addr × Mu) → Prop) : Prop :=
  ∀ A X s vs, Room n A → Bk g X mu s → Ats X s.heap ds vs → codeAny g.M A (.call f ⟨vs, []⟩) (Ret g X mu s Q) s
theorem CallW.mono {g : Gl} {n : Nat} {f : Value} {ds : List D} {mu : List (Addr × Mu)} {Q Q' : D → List (Addr × Mu) → Prop} (h : CallW g n f ds mu Q) (q : ∀ d m, Q d m → Q' d m) : CallW g n f ds mu Q' :=
  fun A X s vs r k a => codeAny_mono (h A X s vs r k a) (fun _ _ ⟨v, e, d, mu', X', z⟩ => ⟨v, e, d, mu', X', z.bk, z.mv, z.up, z.kept, z.fresh, z.at_, q _ _ z.q⟩)
theorem Room.le {n m : Nat} {A : Around} (r : Room n A) (h : m ≤ n) : Room m A := ⟨r.handled, by have := r.depth; (first | lia | omega), by have := r.units; (first | lia | omega)⟩
theorem CallW.le {g : Gl} {n m : Nat} {f : Value} {ds : List D} {mu : List (Addr × Mu)} {Q : D → List (Addr × Mu) → Prop} (h : CallW g n f ds mu Q) (q : n ≤ m) : CallW g m f ds mu Q :=
  fun A X s vs r k a => h A X s vs (r.le q) k a

/-- the mutables that are handed on, and the rest -/
inductive Ex : List (Addr × Mu) → List (Addr × Mu) → List (Addr × Mu) → Prop
  | none {l} : Ex l [] l
  | here {p l ps rest} : Ex l ps rest → Ex (p :: l) (p :: ps) rest
  | skip {p l ps rest} : Ex l ps rest → Ex (p :: l) ps (p :: rest)
theorem Ex.perm {l ps rest : List (Addr × Mu)} (e : Ex l ps rest) : l.Perm (ps ++ rest) := by
  induction e with
  | none => exact .refl _
  | here _ ih => exact ih.cons _
  | skip _ ih => exact (ih.cons _).trans List.perm_middle.symm

section
variable {g : Gl} {c : Ctx} {st : St} {Q : D → St → Prop}
noncomputable def CallQ (g : Gl) (c : Ctx) (f : Value) (ds : List D) (st : St) (Q : D → St → Prop) : Prop :=
  ∀ X s vs, Ok g c X st s → Ats X s.heap ds vs → wpAny g.M c.A (call f vs []) (Post g c X s Q) noE s
noncomputable abbrev KCall (c : Ctx) (l : List (Str × Option D)) (cl : List (Str × Addr × Option D)) (ps rest : List (Addr × Mu)) (Q : D → St → Prop) : D → List (Addr × Mu) → Prop := fun d mu' => (∀ p ∈ mu', p.1 ∈ ps.map (·.1) ∨ ¬ c.Xc p.1) → Q d ⟨l, cl, mu' ++ rest⟩
theorem cq_call {n : Nat} {f : Value} {ds : List D} {l cl mu ps rest} (e : Ex mu ps rest) (hn : n ≤ c.n) (h : CallW g n f ds ps (KCall c l cl ps rest Q)) : CallQ g c f ds ⟨l, cl, mu⟩ Q := fun X s vs k a => by
  have pm := e.perm
  have mem : ∀ p, p ∈ mu ↔ p ∈ ps ∨ p ∈ rest := fun p => by rw [pm.mem_iff, List.mem_append]
  have nd := k.nodup
  unfold own at nd
  rw [List.nodup_cons, List.nodup_append] at nd
  have ndm : ((ps ++ rest).map (·.1)).Nodup := (pm.map (·.1)).nodup_iff.mp nd.2.2.1
  rw [List.map_append, List.nodup_append] at ndm
  have ownmem : ∀ p ∈ mu, p.1 ∈ own c ⟨l, cl, mu⟩ := fun p hp => by unfold own; exact .tail _ (List.mem_append_right _ (List.mem_map_of_mem hp))
  have psown : ∀ x ∈ ps.map (·.1), x ∈ own c ⟨l, cl, mu⟩ := fun x hx => by
    obtain ⟨p, hp, rfl⟩ := List.mem_map.mp hx
    exact ownmem p ((mem p).mpr (.inl hp))
  have bk : Bk g X ps s := ⟨k.base, ndm.1, fun p hp => ⟨(k.mine _ (ownmem p ((mem p).mpr (.inl hp)))).1, k.mu p ((mem p).mpr (.inl hp))⟩⟩
  refine wpAny_call (codeAny_mono (h c.A X s vs (k.cok.room.le hn) bk a) fun r s' h' => ?_)
  obtain ⟨v, rfl, d, mu', X', z⟩ := h'
  have hiNone : ∀ x, s.heap.get? x = Option.none → c.hI.get? x = Option.none := fun x hx => by
    cases e : c.hI.get? x with
    | none => rfl
    | some o =>
      by_cases hp : c.P x
      · obtain ⟨o', e'⟩ := k.base.live x (k.xc _ (k.cok.px _ hp))
        rw [hx] at e'; cases e'
      · rw [k.kept _ _ e hp] at hx; cases hx
  have hLps : c.env.locals ∉ ps.map (·.1) := fun hx => by
    obtain ⟨p, hp, e⟩ := List.mem_map.mp hx
    exact nd.1 (e ▸ List.mem_append_right _ (List.mem_map_of_mem ((mem p).mpr (.inl hp))))
  have hcps : ∀ p ∈ cl, p.2.1 ∉ ps.map (·.1) := fun p hp hx => by
    obtain ⟨q, hq, e⟩ := List.mem_map.mp hx
    exact nd.2.2.2 _ (List.mem_map_of_mem (f := fun x : Str × Addr × Option D => x.2.1) hp) _ (List.mem_map_of_mem (f := fun x : Addr × Mu => x.1) ((mem q).mpr (.inl hq))) e.symm
  have hrps : ∀ p ∈ rest, p.1 ∉ ps.map (·.1) := fun p hp hx => ndm.2.2 _ hx _ (List.mem_map_of_mem (f := fun x : Addr × Mu => x.1) hp) rfl
  have live : ∀ x ∈ own c ⟨l, cl, mu⟩, ∃ o, s.heap.get? x = some o := fun x hx => k.base.live x (k.mine x hx).1
  have newNe : ∀ p ∈ mu', ∀ x, x ∈ own c ⟨l, cl, mu⟩ → x ∉ ps.map (·.1) → p.1 ≠ x := fun p hp x hx hn e => by
    rcases z.fresh p hp with h | h
    · exact hn (e ▸ h)
    · obtain ⟨o, e'⟩ := live x hx
      rw [← e, h] at e'; cases e'
  refine ⟨d, ⟨l, cl, mu' ++ rest⟩, X', ⟨k.cok, z.bk.base, fun x o e hp => ?_, fun x hx => z.up x (k.xc x hx), ?_, ?_, k.names, ?_, ?_, ?_⟩, z.mv, z.at_, z.q fun p hp => (z.fresh p hp).imp id fun hn hx => by obtain ⟨o, e⟩ := k.base.live _ (k.xc _ hx); rw [hn] at e; cases e⟩
  · refine z.kept x o (k.kept x o e hp) fun hx => ?_
    rcases (k.mine x (psown x hx)).2 with q | q
    · exact hp q
    · rw [q] at e; cases e
  · show (c.env.locals :: (cl.map (·.2.1) ++ (mu' ++ rest).map (·.1))).Nodup
    rw [List.nodup_cons, List.nodup_append, List.map_append, List.nodup_append]
    refine ⟨fun hx => ?_, nd.2.1, ⟨z.bk.nodup, ndm.2.1, fun x hx y hy e => ?_⟩, fun x hx y hy e => ?_⟩
    · rcases List.mem_append.mp hx with hx | hx
      · exact nd.1 (List.mem_append_left _ hx)
      · rcases List.mem_append.mp hx with hx | hx
        · obtain ⟨p, hp, e⟩ := List.mem_map.mp hx
          exact newNe p hp _ (.head _) hLps e
        · obtain ⟨p, hp, e⟩ := List.mem_map.mp hx
          exact nd.1 (e ▸ List.mem_append_right _ (List.mem_map_of_mem ((mem p).mpr (.inr hp))))
    · obtain ⟨p, hp, rfl⟩ := List.mem_map.mp hx
      obtain ⟨q, hq, rfl⟩ := List.mem_map.mp hy
      exact newNe p hp _ (ownmem q ((mem q).mpr (.inr hq))) (hrps q hq) e
    · obtain ⟨p, hp, rfl⟩ := List.mem_map.mp hx
      rcases List.mem_append.mp hy with hy | hy
      · obtain ⟨q, hq, rfl⟩ := List.mem_map.mp hy
        exact newNe q hq _ (by unfold own; exact .tail _ (List.mem_append_left _ (List.mem_map_of_mem (f := fun x : Str × Addr × Option D => x.2.1) hp))) (hcps p hp) e.symm
      · obtain ⟨q, hq, rfl⟩ := List.mem_map.mp hy
        exact nd.2.2.2 _ (List.mem_map_of_mem (f := fun x : Str × Addr × Option D => x.2.1) hp) _ (List.mem_map_of_mem (f := fun x : Addr × Mu => x.1) ((mem q).mpr (.inr hq))) e
  · intro x hx
    have cases : x = c.env.locals ∨ x ∈ cl.map (·.2.1) ∨ x ∈ mu'.map (·.1) ∨ x ∈ rest.map (·.1) := by
      unfold own at hx
      simp only [List.map_append, List.mem_cons, List.mem_append] at hx
      exact hx
    have old : x ∈ own c ⟨l, cl, mu⟩ → X' x ∧ (c.P x ∨ c.hI.get? x = Option.none) := fun h => ⟨z.up x (k.mine x h).1, (k.mine x h).2⟩
    rcases cases with rfl | h | h | h
    · exact old (.head _)
    · exact old (by unfold own; exact .tail _ (List.mem_append_left _ h))
    · obtain ⟨p, hp, rfl⟩ := List.mem_map.mp h
      refine ⟨(z.bk.mine p hp).1, ?_⟩
      rcases z.fresh p hp with h | h
      · exact (k.mine _ (psown _ h)).2
      · exact .inr (hiNone _ h)
    · obtain ⟨p, hp, rfl⟩ := List.mem_map.mp h
      exact old (ownmem p ((mem p).mpr (.inr hp)))
  · obtain ⟨m, hm, r⟩ := k.loc
    exact ⟨m, hm.at' fun o e => z.kept _ _ e hLps, fun p hp => ⟨(r p hp).1, (r p hp).2.1, fun d e => let ⟨v, a, b⟩ := (r p hp).2.2 d e; ⟨v, a, b.mv z.mv⟩⟩⟩
  · intro p hp
    obtain ⟨a, b, c', o, v, d, e, f⟩ := k.cel p hp
    exact ⟨a, b, c', o, v, z.kept _ _ d (hcps p hp), e, fun d' q => let ⟨v', x, y⟩ := f d' q; ⟨v', x, y.mv z.mv⟩⟩
  · intro p hp
    rcases List.mem_append.mp hp with hp | hp
    · exact (z.bk.mine p hp).2
    · exact (k.mu p ((mem p).mpr (.inr hp))).mv z.mv fun o e => z.kept _ _ e (hrps p hp)
end

/-! a def's contract -/
inductive ScL (ca : Str → Addr) : List (Str × NameKind) → List D → List (Str × Option D) → List (Str × Addr × Option D) → Prop
  | nil : ScL ca [] [] [] []
  | argL {n ns d ds l cl} : ScL ca ns ds l cl → ScL ca ((n, .local) :: ns) (d :: ds) ((n, some d) :: l) cl
  | argC {n ns d ds l cl} : ScL ca ns ds l cl → ScL ca ((n, .cell) :: ns) (d :: ds) l ((n, ca n, some d) :: cl)
  | freeL {n ns l cl} : ScL ca ns [] l cl → ScL ca ((n, .local) :: ns) [] ((n, Option.none) :: l) cl
  | freeC {n ns l cl} : ScL ca ns [] l cl → ScL ca ((n, .cell) :: ns) [] l ((n, ca n, Option.none) :: cl)
  | glob {n ns l cl} : ScL ca ns [] l cl → ScL ca ((n, .globalImplicit) :: ns) [] l cl
noncomputable def cellAt (c : Ctx) (n : Str) : Addr := (c.env.cells.lookup n).getD 0
section
variable {ca : Str → Addr} {ns : List (Str × NameKind)} {ds : List D} {l : List (Str × Option D)} {cl : List (Str × Addr × Option D)}
theorem ScL.loc_mem (e : ScL ca ns ds l cl) : ∀ p ∈ l, (p.1, NameKind.local) ∈ ns := by
  induction e with
  | nil => intro p hp; cases hp
  | argL _ ih | freeL _ ih =>
    intro p hp
    rcases List.mem_cons.mp hp with rfl | hp
    · exact .head _
    · exact .tail _ (ih p hp)
  | argC _ ih | freeC _ ih | glob _ ih => exact fun p hp => .tail _ (ih p hp)
theorem ScL.cel_mem (e : ScL ca ns ds l cl) : ∀ p ∈ cl, (p.1, NameKind.cell) ∈ ns ∧ p.2.1 = ca p.1 := by
  induction e with
  | nil => intro p hp; cases hp
  | argC _ ih | freeC _ ih =>
    intro p hp
    rcases List.mem_cons.mp hp with rfl | hp
    · exact ⟨.head _, rfl⟩
    · exact ⟨.tail _ (ih p hp).1, (ih p hp).2⟩
  | argL _ ih | freeL _ ih | glob _ ih => exact fun p hp => ⟨.tail _ (ih p hp).1, (ih p hp).2⟩
theorem ScL.loc_names (e : ScL ca ns ds l cl) : (l.map (·.1)).Sublist (ns.map (·.1)) := by
  induction e with
  | nil => exact .slnil
  | argL _ ih | freeL _ ih => exact ih.cons_cons _
  | argC _ ih | freeC _ ih | glob _ ih => exact ih.cons _
theorem ScL.cel_names (e : ScL ca ns ds l cl) : (cl.map (·.1)).Sublist (ns.map (·.1)) := by
  induction e with
  | nil => exact .slnil
  | argC _ ih | freeC _ ih => exact ih.cons_cons _
  | argL _ ih | freeL _ ih | glob _ ih => exact ih.cons _
theorem ScL.loc_val {X : Addr → Prop} {h : Heap} (e : ScL ca ns ds l cl) : ∀ {vs : List Value}, Ats X h ds vs → ∀ p ∈ l, ∀ d, p.2 = some d → ∃ v, (p.1, v) ∈ (ns.map (·.1)).zip vs ∧ At X h d v := by
  induction e with
  | nil => intro vs a p hp; cases hp
  | argL _ ih =>
    intro vs a p hp d e
    obtain ⟨v, r, rfl, av, ar⟩ := a
    rcases List.mem_cons.mp hp with rfl | hp
    · cases e; exact ⟨v, .head _, av⟩
    · obtain ⟨v', m, x⟩ := ih ar p hp d e
      exact ⟨v', .tail _ m, x⟩
  | argC _ ih =>
    intro vs a p hp d e
    obtain ⟨v, r, rfl, av, ar⟩ := a
    obtain ⟨v', m, x⟩ := ih ar p hp d e
    exact ⟨v', .tail _ m, x⟩
  | freeL _ ih =>
    intro vs a p hp d e
    obtain rfl : vs = [] := a
    rcases List.mem_cons.mp hp with rfl | hp
    · cases e
    · obtain ⟨v', m, x⟩ := ih (vs := []) rfl p hp d e
      simp at m
  | freeC _ ih | glob _ ih =>
    intro vs a p hp d e
    obtain rfl : vs = [] := a
    obtain ⟨v', m, x⟩ := ih (vs := []) rfl p hp d e
    simp at m
theorem ScL.cel_val {X : Addr → Prop} {h : Heap} (e : ScL ca ns ds l cl) : ∀ {vs : List Value}, Ats X h ds vs → ∀ p ∈ cl, ∀ d, p.2.2 = some d → ∃ v, (p.1, v) ∈ (ns.map (·.1)).zip vs ∧ At X h d v := by
  induction e with
  | nil => intro vs a p hp; cases hp
  | argC _ ih =>
    intro vs a p hp d e
    obtain ⟨v, r, rfl, av, ar⟩ := a
    rcases List.mem_cons.mp hp with rfl | hp
    · cases e; exact ⟨v, .head _, av⟩
    · obtain ⟨v', m, x⟩ := ih ar p hp d e
      exact ⟨v', .tail _ m, x⟩
  | argL _ ih =>
    intro vs a p hp d e
    obtain ⟨v, r, rfl, av, ar⟩ := a
    obtain ⟨v', m, x⟩ := ih ar p hp d e
    exact ⟨v', .tail _ m, x⟩
  | freeC _ ih =>
    intro vs a p hp d e
    obtain rfl : vs = [] := a
    rcases List.mem_cons.mp hp with rfl | hp
    · cases e
    · obtain ⟨v', m, x⟩ := ih (vs := []) rfl p hp d e
      simp at m
  | freeL _ ih | glob _ ih =>
    intro vs a p hp d e
    obtain rfl : vs = [] := a
    obtain ⟨v', m, x⟩ := ih (vs := []) rfl p hp d e
    simp at m
theorem ScL.arg_kind {X : Addr → Prop} {h : Heap} (e : ScL ca ns ds l cl) : ∀ {vs : List Value}, Ats X h ds vs → ∀ y ∈ (ns.map (·.1)).zip vs, (y.1, NameKind.local) ∈ ns ∨ (y.1, NameKind.cell) ∈ ns := by
  induction e with
  | nil => intro vs a p hp; simp at hp
  | argL _ ih =>
    intro vs a p hp
    obtain ⟨v, r, rfl, av, ar⟩ := a
    rcases List.mem_cons.mp hp with rfl | hp
    · exact .inl (.head _)
    · exact (ih ar p hp).imp (.tail _) (.tail _)
  | argC _ ih =>
    intro vs a p hp
    obtain ⟨v, r, rfl, av, ar⟩ := a
    rcases List.mem_cons.mp hp with rfl | hp
    · exact .inr (.head _)
    · exact (ih ar p hp).imp (.tail _) (.tail _)
  | freeL _ _ | freeC _ _ | glob _ _ =>
    intro vs a p hp
    obtain rfl : vs = [] := a
    simp at hp
end
theorem lookup_mem {α : Type} {ns : List (Str × α)} (nd : (ns.map (·.1)).Nodup) {n : Str} {k : α} (h : (n, k) ∈ ns) : ns.lookup n = some k := by
  induction ns with
  | nil => cases h
  | cons p ns ih =>
    obtain ⟨m, k'⟩ := p
    rw [List.map_cons, List.nodup_cons] at nd
    rcases List.mem_cons.mp h with e | h
    · cases e; simp [List.lookup]
    · have : n ≠ m := fun e => nd.1 (List.mem_map.mpr ⟨(n, k), h, e⟩)
      rw [List.lookup_cons, beq_false_of_ne this]
      exact ih nd.2 h
theorem zip_nodup {ns : List Str} (nd : ns.Nodup) : ∀ (vs : List Value), ((ns.zip vs).map (·.1)).Nodup := fun vs => by
  have : ((ns.zip vs).map (·.1)).Sublist ns := by
    induction ns generalizing vs with
    | nil => simp
    | cons n ns ih =>
      cases vs with
      | nil => simp
      | cons v vs => simpa using ih (List.nodup_cons.mp nd).2 vs
  exact this.nodup nd
theorem bindL_get {kf : Str → Option NameKind} {n : Str} {v : Value} (hk : kf n = some .local) : ∀ (bs : List (Str × Value)) (m : Str → Option Value), (bs.map (·.1)).Nodup → (n, v) ∈ bs → bindL kf bs m n = some v
  | (n', v') :: r, m, nd, h => by
    rw [List.map_cons, List.nodup_cons] at nd
    rcases List.mem_cons.mp h with e | h
    · cases e
      have none : ∀ (bs : List (Str × Value)) (m : Str → Option Value), n ∉ bs.map (·.1) → bindL kf bs m n = m n := by
        intro bs
        induction bs with
        | nil => intros; rfl
        | cons p r ih =>
          obtain ⟨a, b⟩ := p
          intro m hn
          simp only [List.map_cons, List.mem_cons, not_or] at hn
          show bindL kf r _ n = _
          rw [ih _ hn.2]
          split
          · simp [hn.1]
          · rfl
      show bindL kf r (if kf n = some .local then fun y => if y = n then some v else m y else m) n = _
      rw [none _ _ nd.1, if_pos hk]; simp
    · exact bindL_get hk r _ nd.2 h
theorem bindC_get {kf : Str → Option NameKind} {n : Str} {v : Value} (hk : kf n ≠ some .local) : ∀ (bs : List (Str × Value)) (m : Str → Option Value), (bs.map (·.1)).Nodup → (n, v) ∈ bs → bindC kf bs m n = some v
  | (n', v') :: r, m, nd, h => by
    rw [List.map_cons, List.nodup_cons] at nd
    rcases List.mem_cons.mp h with e | h
    · cases e
      have none : ∀ (bs : List (Str × Value)) (m : Str → Option Value), n ∉ bs.map (·.1) → bindC kf bs m n = m n := by
        intro bs
        induction bs with
        | nil => intros; rfl
        | cons p r ih =>
          obtain ⟨a, b⟩ := p
          intro m hn
          simp only [List.map_cons, List.mem_cons, not_or] at hn
          show bindC kf r _ n = _
          rw [ih _ hn.2]
          split
          · rfl
          · simp [hn.1]
      show bindC kf r (if kf n = some .local then m else fun y => if y = n then some v else m y) n = _
      rw [none _ _ nd.1, if_neg hk]; simp
    · exact bindC_get hk r _ nd.2 h
end Mine
open PySem PySem.W PySem.Calls PyProof.Rows
set_option maxRecDepth 100000
set_option Elab.async false
set_option maxHeartbeats 4000000
set_option linter.unusedVariables false
set_option linter.unusedSimpArgs false
namespace Mine

noncomputable def scOk (sc : Scope) : Bool := sc.kind == .function && !sc.isCoroutine && !sc.isGenerator && decide ((sc.names.map (·.1)).Nodup) && sc.names.all fun p => okName p.1
theorem cellsFrom_mem : ∀ (names : List (Str × NameKind)) (n : Nat) (acc : List (Str × Addr)) (x : Str × Addr), x ∈ cellsFrom n names acc → x ∈ acc ∨ (x.1, NameKind.cell) ∈ names
  | [], _, _, _, h => .inl h
  | (y, k) :: r, n, acc, x, h => by
    unfold cellsFrom at h
    by_cases hk : (k == .cell) = true
    · rw [if_pos hk] at h
      rcases cellsFrom_mem r _ _ _ h with h | h
      · rcases List.mem_cons.mp h with rfl | h
        · exact .inr (by rw [← eq_of_beq hk]; exact .head _)
        · exact .inl h
      · exact .inr (.tail _ h)
    · rw [if_neg hk] at h
      exact (cellsFrom_mem r _ _ _ h).imp id (.tail _)
theorem lookup_nodup {l : List (Str × Addr)} {n : Str} {a : Addr} (h : l.lookup n = some a) : (n, a) ∈ l := by
  induction l with
  | nil => cases h
  | cons p l ih =>
    obtain ⟨m, b⟩ := p
    rw [List.lookup_cons] at h
    split at h
    · rename_i e
      rw [eq_of_beq e]
      cases h; exact .head _
    · exact .tail _ (ih h)

theorem apart_ne {l : List (Str × Addr)} (hl : l.Pairwise (fun x y => x.2 ≠ y.2)) : ∀ x ∈ l, ∀ y ∈ l, x ≠ y → x.2 ≠ y.2 := by
  induction hl with
  | nil => intro x hx; cases hx
  | @cons a l h _ ih =>
    intro x hx y hy ne
    rcases List.mem_cons.mp hx with hx' | hx' <;> rcases List.mem_cons.mp hy with hy' | hy'
    · exact absurd (hx'.trans hy'.symm) ne
    · rw [hx']; exact h _ hy'
    · rw [hy']; exact (h _ hx').symm
    · exact ih x hx' y hy' ne
inductive KEndR (Q : D → List (Addr × Mu) → Prop) (r : Fl) (st : St) : Prop
  | mk (d : D) (e : r = .ret d) (q : Q d st.mu)
inductive KEndN (Q : D → List (Addr × Mu) → Prop) (r : Fl) (st : St) : Prop
  | mk (e : r = .next) (q : Q .none st.mu)
inductive KEnd (Q : D → List (Addr × Mu) → Prop) (r : Fl) (st : St) : Prop
  | inl (h : KEndR Q r st)
  | inr (h : KEndN Q r st)
theorem callW_def {g : Gl} {n : Nat} {f : Addr} {ds dds : List D} {dvs : List Value} {mu : List (Addr × Mu)} {Q : D → List (Addr × Mu) → Prop} {name qual : Str} {params : Arguments} {body : List Stmt} {scope : Scope} {dV kV doc pm cdv ct oc : Value} {an od : Option Addr} {osl : Array (Option Value)}
    (ho : g.K.lookup f = some ⟨oc, od, .func (fnOf name qual params body scope dV kV doc pm an cdv ct), osl⟩) (hcd : codeIn g.K cdv qual = true) (hsc : scOk scope = true)
    (hd : ∀ X h, Ats X h dds dvs)
    (hbind : ∀ X s vs, Base g X s → Ats X s.heap ds vs → BindsTo s (fnOf name qual params body scope dV kV doc pm an cdv ct) ⟨vs, []⟩ ((scope.names.map (·.1)).zip (vs ++ dvs)))
    (h : ∀ c, c.env.scope = scope → c.n = n → ∃ l cl, ScL (cellAt c) scope.names (ds ++ dds) l cl ∧ XW g c body ⟨l, cl, mu⟩ (KEnd Q)) :
    CallW g (n + 1) (.ref f) ds mu Q := fun A X s vs rm bk a => by
  obtain ⟨⟨⟨⟨s1, s2⟩, s3⟩, s4⟩, s5⟩ : (((_ ∧ _) ∧ _) ∧ _) ∧ _ := by simpa only [scOk, Bool.and_eq_true] using hsc
  have hk : scope.kind = .function := eq_of_beq s1
  have hnd : (scope.names.map (·.1)).Nodup := of_decide_eq_true s4
  have a' : Ats X s.heap (ds ++ dds) (vs ++ dvs) := a.append (hd _ _)
  have kx := bk.base.kx
  have bz := zip_nodup hnd (vs ++ dvs)
  -- the context, its cells' places known
  refine (codeAny_call_function (by have := rm.depth; show A.depth < 1000; (first | lia | omega)) (kx _ _ ho) rfl (by simpa using s2) (by simpa using s3) rfl (codeRec_of kx hcd) (hbind X s vs bk.base a _ _ _ _ ?_))
  refine wpAny_newFunctionEnv_cells hk (fun x hx => ?_) fun env he s' ic => ?_
  · -- the kinds of the arguments
    obtain ⟨l, cl, e, _⟩ := h ⟨newEnv scope s.heap.objs.size mainGlobals (cellsFrom (s.heap.objs.size + 1) scope.names []) (qual ++ ".<locals>.") (some f) cdv Option.none builtinsNs, A, n, s.heap, fun _ => False, X⟩ rfl rfl
    rcases e.arg_kind a' x hx with q | q
    · exact .inl (lookup_mem hnd q)
    · exact .inr ⟨lookup_mem hnd q, cellsFrom_some _ _ _ (.inl (lookup_mem hnd q))⟩
  · have keep := ic.toInCall.keep
    obtain ⟨hh, tk, rfl⟩ := ic.toInCall.same
    refine ⟨bk.base.top.nolimit.keeps keep, codeAny_func ?_⟩
    have eL : env.locals = s.heap.objs.size := by rw [he]; rfl
    have esc : env.scope = scope := by rw [he]; rfl
    have ecl : env.cells = cellsFrom (s.heap.objs.size + 1) scope.names [] := by rw [he]; rfl
    let c : Ctx := ⟨env, A.deeper env, n, s.heap, fun x => x ∈ mu.map (·.1), X⟩
    obtain ⟨l, cl, e, w⟩ := h c esc rfl
    have cellMem : ∀ p ∈ cl, (p.1, p.2.1) ∈ env.cells ∧ env.cells.lookup p.1 = some p.2.1 := fun p hp => by
      obtain ⟨m1, m2⟩ := e.cel_mem p hp
      have q : (env.cells.lookup p.1).isSome = true := by rw [ecl]; exact cellsFrom_some _ _ _ (.inl (lookup_mem hnd m1))
      obtain ⟨ca, hca⟩ := Option.isSome_iff_exists.mp q
      have : p.2.1 = ca := by rw [m2]; show (env.cells.lookup p.1).getD 0 = ca; rw [hca]; rfl
      rw [this]
      exact ⟨lookup_nodup hca, hca⟩
    have above : ∀ p ∈ cl, s.heap.objs.size < p.2.1 := fun p hp => eL ▸ ic.above _ _ (cellMem p hp).1
    let X₁ : Addr → Prop := fun x => X x ∨ x = s.heap.objs.size ∨ x ∈ cl.map (·.2.1)
    have nolive : ∀ x, s.heap.objs.size ≤ x → s.heap.get? x = Option.none := fun x hx => by
      cases q : s.heap.get? x with
      | none => rfl
      | some o => exact absurd (Heap.lt_size q) (Nat.not_lt.mpr hx)
    have newX : ∀ x, (x = s.heap.objs.size ∨ x ∈ cl.map (·.2.1)) → s.heap.get? x = Option.none := fun x hx => by
      rcases hx with rfl | hx
      · exact nolive _ (Nat.le_refl _)
      · obtain ⟨p, hp, rfl⟩ := List.mem_map.mp hx
        exact nolive _ (Nat.le_of_lt (above p hp))
    have M : Mv X s.heap X₁ hh := fun x o nx ex => ⟨fun hx => hx.elim nx (fun q => by rw [newX x q] at ex; cases ex), keep x o ex⟩
    have cells_inj : ∀ p ∈ cl, ∀ q ∈ cl, p.1 ≠ q.1 → p.2.1 ≠ q.2.1 := fun p hp q hq ne eq => by
      have h1 := (cellMem p hp).1
      have h2 := (cellMem q hq).1
      have ap := ic.apart
      exact apart_ne ap _ h1 _ h2 (fun z => ne (Prod.mk.inj z).1) eq
    have muLt : ∀ p ∈ mu, p.1 < s.heap.objs.size := fun p hp => by
      obtain ⟨o, q⟩ := bk.base.live _ (bk.mine p hp).1
      exact Heap.lt_size q
    have ok : Ok g c X₁ ⟨l, cl, mu⟩ { s with heap := hh, toks := tk } := by
      refine ⟨⟨?_, ?_, ?_, ⟨rm.handled, ?_, ?_⟩, fun x hx => bk.base.live x hx, fun x hx => ?_⟩, ⟨fun x o q => ?_, bk.base.gens, bk.base.os, fun x hx => ?_⟩, fun x o q _ => keep x o q, fun x hx => .inl hx, ?_, ?_, ?_, ?_, ?_, fun p hp => (bk.mine p hp).2.mv M fun o q => keep _ _ q⟩
      · show env.scope.kind = _; rw [esc]; exact hk
      · show env.globals = _; rw [he]; rfl
      · show env.builtins = _; rw [he]; rfl
      · show A.depth + 1 + n ≤ 990; have := rm.depth; (first | lia | omega)
      · show A.units + 3 + 8 * n ≤ 9800; have := rm.units; (first | lia | omega)
      · obtain ⟨p, hp, rfl⟩ := List.mem_map.mp hx
        exact (bk.mine p hp).1
      · obtain ⟨p1, p2⟩ := bk.base.keep x o q
        exact M x o p1 p2
      · rcases hx with hx | rfl | hx
        · obtain ⟨o, q⟩ := bk.base.live x hx
          exact ⟨o, keep x o q⟩
        · obtain ⟨o, _, _, q, _⟩ := eL ▸ ic.toInCall.ns
          exact ⟨o, q⟩
        · obtain ⟨p, hp, rfl⟩ := List.mem_map.mp hx
          obtain ⟨o, q, _⟩ := ic.cell _ _ (cellMem p hp).2
          exact ⟨o, q⟩
      · show (env.locals :: (cl.map (·.2.1) ++ mu.map (·.1))).Nodup
        rw [eL, List.nodup_cons, List.nodup_append]
        refine ⟨fun hx => ?_, ?_, bk.nodup, fun x hx y hy q => ?_⟩
        · rcases List.mem_append.mp hx with hx | hx
          · obtain ⟨p, hp, q⟩ := List.mem_map.mp hx
            exact absurd (q ▸ above p hp) (Nat.lt_irrefl _)
          · obtain ⟨p, hp, q⟩ := List.mem_map.mp hx
            exact absurd (q ▸ muLt p hp) (Nat.lt_irrefl _)
        · have nn : (cl.map (·.1)).Nodup := e.cel_names.nodup hnd
          have go : ∀ {cl' : List (Str × Addr × Option D)}, (∀ p ∈ cl', p ∈ cl) → (cl'.map (·.1)).Nodup → (cl'.map (·.2.1)).Nodup := by
            intro cl'
            induction cl' with
            | nil => intros; exact List.nodup_nil
            | cons p r ih =>
              intro hm hn
              rw [List.map_cons, List.nodup_cons] at hn ⊢
              refine ⟨fun hx => ?_, ih (fun q hq => hm q (.tail _ hq)) hn.2⟩
              obtain ⟨q, hq, z⟩ := List.mem_map.mp hx
              exact cells_inj q (hm q (.tail _ hq)) p (hm p (.head _)) (fun y => hn.1 (List.mem_map.mpr ⟨q, hq, y⟩)) z
          exact go (fun _ z => z) nn
        · obtain ⟨p, hp, rfl⟩ := List.mem_map.mp hx
          obtain ⟨p', hp', z⟩ := List.mem_map.mp hy
          have h1 := above p hp
          have h2 := muLt p' hp'
          exact absurd (Nat.lt_trans h1 (by rw [q, ← z]; exact h2)) (Nat.lt_irrefl _)
      · intro x hx
        have cs : x = s.heap.objs.size ∨ x ∈ cl.map (·.2.1) ∨ x ∈ mu.map (·.1) := by
          have : x ∈ env.locals :: (cl.map (·.2.1) ++ mu.map (·.1)) := hx
          rw [eL, List.mem_cons, List.mem_append] at this
          exact this
        rcases cs with q | q | q
        · exact ⟨.inr (.inl q), .inr (newX x (.inl q))⟩
        · exact ⟨.inr (.inr q), .inr (newX x (.inr q))⟩
        · obtain ⟨p, hp, rfl⟩ := List.mem_map.mp q
          exact ⟨.inl (bk.mine p hp).1, .inl q⟩
      · exact e.loc_names.nodup hnd
      · refine ⟨_, ic.toInCall.ns, fun p hp => ⟨?_, ?_, fun d q => ?_⟩⟩
        · show env.scope.names.lookup p.1 = _
          rw [esc]; exact lookup_mem hnd (e.loc_mem p hp)
        · exact List.all_eq_true.mp s5 _ (e.loc_mem p hp)
        · obtain ⟨v, m, x⟩ := e.loc_val a' p hp d q
          exact ⟨v, bindL_get (show env.scope.names.lookup p.1 = _ by rw [esc]; exact lookup_mem hnd (e.loc_mem p hp)) _ _ bz m, x.mv M⟩
      · intro p hp
        obtain ⟨o, q, z⟩ := ic.cell _ _ (cellMem p hp).2
        have kc : env.kindOf p.1 = some .cell := by show env.scope.names.lookup p.1 = _; rw [esc]; exact lookup_mem hnd (e.cel_mem p hp).1
        refine ⟨kc, List.all_eq_true.mp s5 _ (e.cel_mem p hp).1, (cellMem p hp).2, o, _, q, z, fun d y => ?_⟩
        obtain ⟨v, m, x⟩ := e.cel_val a' p hp d y
        exact ⟨v, bindC_get (by rw [kc]; intro z; cases z) _ _ bz m, x.mv M⟩
    refine wpAny_mono (w X₁ _ ok) (fun fl s' h' => ?_) fun _ _ z => z.elim
    obtain ⟨r, st', X', k', m', ff, q⟩ := h'
    have fin : ∀ d v, At X' s'.heap d v → Q d st'.mu → Ret g X mu s Q (.ok (.ret v)) s' := fun d v av qv => by
      have nd := k'.nodup
      unfold own at nd
      rw [List.nodup_cons, List.nodup_append] at nd
      refine ⟨v, rfl, d, st'.mu, X', ⟨k'.base, nd.2.2.1, fun p hp => ⟨(k'.mine _ (by unfold own; exact .tail _ (List.mem_append_right _ (List.mem_map_of_mem hp)))).1, k'.mu p hp⟩⟩, M.trans m', fun x hx => k'.xc x hx, fun x o z nz => k'.kept x o z nz, fun p hp => ?_, av, qv⟩
      exact (k'.mine _ (by unfold own; exact .tail _ (List.mem_append_right _ (List.mem_map_of_mem hp)))).2
    rcases q with ⟨d, rfl, q⟩ | ⟨rfl, q⟩
    · obtain ⟨v, rfl, av⟩ := ff
      exact fin d v av q
    · obtain rfl : fl = .next := ff
      exact fin .none .none rfl q
end Mine
open PySem PySem.W PySem.Calls PyProof.Rows
set_option maxRecDepth 100000
set_option Elab.async false
set_option maxHeartbeats 4000000
set_option linter.unusedVariables false
set_option linter.unusedSimpArgs false
namespace Mine

section
variable {g : Gl} {c : Ctx} {st : St} {Q : D → St → Prop}

/-! calls in expressions -/
theorem backTo_plain {env : Env} {pos : Pos} : ∀ {es : List Expr}, noStars es = true → (backTo pos (starEach es env)).any (·.1) = false
  | [], _ => rfl
  | e :: es, h => by
    obtain ⟨h1, h2⟩ := Bool.and_eq_true_iff.mp h
    rw [starEach_cons h1]
    show (false || (backTo pos (starEach es env)).any (·.1)) = false
    rw [backTo_plain h2]; rfl
theorem evalArgs_any {M : Model} {A : Around} {E : Value → Shared → Prop} {s : Shared} {f : Value} {Q : Args → Shared → Prop} : ∀ {l : List (Bool × Sem Value)}, l.any (·.1) = false →
    wpAny M A (spliced l) (fun vs s' => Q ⟨vs, []⟩ s') E s → wpAny M A (evalArgs f true l []) Q E s
  | [], _, h => by
    unfold evalArgs
    show wpAny M A (spliced [] >>= _) Q E s
    refine wpAny_bind (wpAny_mono h (fun vs s' h' => ?_) fun _ _ x => x)
    refine wpAny_bind (wpAny_pure ?_)
    refine wpAny_holding ?_
    exact wpAny_bind (wpAny_pure (wpAny_bind (wpAny_pure (wpAny_pure h'))))
  | (false, x) :: r, _, h => Calls.evalArgs_plain h
  | (true, x) :: r, e, h => by cases e

noncomputable def builtinly : Value → Bool
  | .builtin _ => true
  | .type _ => true
  | _ => false
theorem callWith_any {K : Frag} {f : Value} {M : Model} {A : Around} {E : Value → Shared → Prop} {s : Shared} {pos : Pos} {first : List Value} {args : List (Bool × Sem Value)} {Q : Value → Shared → Prop} (hk : (keepIn K f || builtinly f) = true) (hp : args.any (·.1) = false)
    (h : wpAny M A (spliced args) (fun vs s₁ => K.In s₁.heap ∧ wpAny M A (call f (first ++ vs) []) Q E s₁) E s) : wpAny M A (callWith pos f first args []) Q E s := by
  rcases Bool.or_eq_true_iff.mp hk with hk | hk
  · exact callWith_of (by rw [hp]; rfl) (keeps_K hk) (evalArgs_any hp h)
  · cases f <;> first | cases hk | skip
    · exact PyProof.Rows.callWith_type hp (evalArgs_any hp (wpAny_mono h (fun _ _ z => z.2) fun _ _ z => z))
    · exact Calls.callWith_builtin hp (evalArgs_any hp (wpAny_mono h (fun _ _ z => z.2) fun _ _ z => z))
noncomputable abbrev KCallA (g : Gl) (c : Ctx) (Q : D → St → Prop) (f : Value) : List D → St → Prop := fun ds st₂ => CallQ g c f ds st₂ Q
inductive KCallF (g : Gl) (c : Ctx) (args : List Expr) (Q : D → St → Prop) (d : D) (st : St) : Prop
  | mk (f : Value) (e : d = .raw f) (hk : (keepIn g.K f || builtinly f) = true) (h : LW g c args st (KCallA g c Q f))
noncomputable abbrev KMe (g : Gl) (c : Ctx) (Q : D → St → Prop) (f : Value) (d : D) : List D → St → Prop := fun ds st₂ => CallQ g c f (d :: ds) st₂ Q
theorem ew_call {id : Str} {p pos : Pos} {args : List Expr} (hs : noStars args = true)
    (h : EW g c (.Name id p) st (KCallF g c args Q)) : EW g c (.Call (.Name id p) args [] pos) st Q := fun X s k => by
  show wpAny _ _ (eval (.Call (.Name id p) args [] pos) c.env) _ _ _
  rw [arm_eval_Call_Name']
  refine wpAny_bind (wpAny_mono (h X s k) (fun v s₁ h₁ => ?_) fun _ _ z => z)
  obtain ⟨d, st₁, X₁, k₁, m₁, a₁, f, rfl, hk, h₁⟩ := h₁
  obtain rfl : v = f := a₁
  refine callWith_any hk (backTo_plain hs) (wpAny_mono (h₁ pos X₁ s₁ k₁) (fun vs s₂ h₂ => ?_) fun _ _ z => z)
  obtain ⟨ds, st₂, X₂, k₂, m₂, a₂, hl, q⟩ := h₂
  refine ⟨k₂.base.kx, ?_⟩
  exact wpAny_mono (q X₂ s₂ vs k₂ a₂) (fun _ _ z => Post.up (m₁.trans m₂) z) fun _ _ z => z

/-! reads of attributes -/
noncomputable def handedD : D → Bool
  | .raw v => handedIn v
  | _ => true
theorem handed_at {X : Addr → Prop} {h : Heap} {d : D} {v : Value} (k : At X h d v) (e : handedD d = true) : handedIn v = true := by
  cases d with
  | int i => obtain ⟨t, rfl⟩ := k; rfl
  | bool b => obtain rfl : v = _ := k; rfl
  | none => obtain rfl : v = _ := k; rfl
  | raw u => obtain rfl : v = _ := k; exact e
  | tup ds => obtain ⟨a, vs, rfl, _⟩ := k; rfl
  | lst ds => obtain ⟨a, vs, rfl, _⟩ := k; rfl
  | inst C ns ds => obtain ⟨a, vs, _, rfl, _⟩ := k; rfl
  | mlst a => obtain rfl : v = _ := k; rfl
  | minst C x dx => obtain rfl : v = _ := k.1; rfl
  | rng a b c => obtain ⟨_, _, _, _, rfl, _⟩ := k; rfl
theorem look_ns {h : Heap} {a : Addr} {m : Str → Option Value} (x : h.Ns a m) : ∃ o, h.get? a = some o ∧ ∀ n, lookIn n o = some (m n) := by
  obtain ⟨o, es, ep, e, d, hk, f⟩ := x
  refine ⟨o, e, fun n => ?_⟩
  have hr : es.toList.any (·.refKey) = false := by
    rw [List.any_eq_false]
    intro z hz
    obtain ⟨n', t, q⟩ := hk z (Array.mem_toList_iff.mp hz)
    simp [DictEntry.refKey, q]
  have q := f n
  unfold nsFind findBy at q
  rw [← Array.find?_toList] at q
  unfold lookIn
  rw [d]
  dsimp only
  rw [← q, hr]
  cases es.toList.find? (·.key.isStr n) <;> rfl

noncomputable def getOk (K : Frag) (C : Addr) : Bool := plainGet K C "" && hasDictIn K C
noncomputable def GetQ (g : Gl) (c : Ctx) (d : D) (n : Str) (st : St) (Q : D → St → Prop) : Prop :=
  ∀ X s v, Ok g c X st s → At X s.heap d v → wpAny g.M c.A (getAttr v n true) (Post g c X s Q) noE s
noncomputable def plainBase : Expr → Bool
  | .Call .. => false
  | _ => true
theorem base_plain {e : Expr} {n : Str} {env : Env} {t : Sem Value} (h : plainBase e = true) : attributeBase e n env t = t := by cases e <;> first | rfl | cases h
noncomputable abbrev KAttr (g : Gl) (c : Ctx) (n : Str) (Q : D → St → Prop) : D → St → Prop := fun d st' => GetQ g c d n st' Q
theorem ew_attr {value : Expr} {n : Str} {pos : Pos} (hb : plainBase value = true) (h : EW g c value st (KAttr g c n Q)) : EW g c (.Attribute value n pos) st Q := fun X s k => by
  refine Attribute_any_ (wpAny_mono (h X s k) (fun v s₁ h₁ => ?_) fun _ _ z => z) (by rw [arm_eval_Attribute, base_plain hb])
  obtain ⟨d, st₁, X₁, k₁, m₁, a₁, q⟩ := h₁
  exact wpAny_mono (q X₁ s₁ v k₁ a₁) (fun _ _ z => Post.up m₁ z) fun _ _ z => z
theorem inst_at {X : Addr → Prop} {s : Shared} {x C dx : Addr} {m : Str → Option Value} (hx : s.heap.get? x = some (instObj C dx)) (hm : s.heap.Ns dx m) : ∃ od, InstAt s.heap x (instObj C dx) C (some od) ∧ ∀ n, lookIn n od = some (m n) := by
  obtain ⟨o, e, f⟩ := look_ns hm
  exact ⟨o, ⟨hx, rfl, rfl, e⟩, f⟩
theorem Ok.tok {X : Addr → Prop} {s : Shared} (k : Ok g c X st s) {n : Nat} : Ok g c X st { s with toks := n } ∧ Mv X s.heap X s.heap := k.grow (s' := { s with toks := n }) (fun _ _ e => e) rfl rfl
theorem get_own' {X : Addr → Prop} {s : Shared} {x C dx : Addr} {m : Str → Option Value} {n : Str} {d : D} {v : Value} (hk : getOk g.K C = true) (ha : findIn g.K (.ref C) n = some none) (k : Ok g c X st s) (hx : s.heap.get? x = some (instObj C dx)) (hm : s.heap.Ns dx m)
    (hv : m n = some v) (a : At X s.heap d v) (hh : handedD d = true) (q : Q d st) : wpAny g.M c.A (getAttr (.ref x) n true) (Post g c X s Q) noE s := by
  obtain ⟨od, I, f⟩ := inst_at (X := X) hx hm
  obtain ⟨h1, h2⟩ := Bool.and_eq_true_iff.mp hk
  exact get_value k.base.kx I (plainGet_of h1).1 (findObj_own h2 ha rfl ((f n).trans (by rw [hv]))) (handed_at a hh) ⟨d, st, X, k.tok.1, Mv.refl _ _, a, q⟩
theorem get_cls' {X : Addr → Prop} {s : Shared} {x C dx : Addr} {m : Str → Option Value} {n : Str} {d : D} {v : Value} (hk : getOk g.K C = true) (ha : findIn g.K (.ref C) n = some (some v)) (hg : specialIn g.K v "__get__" = some none) (hc : copiedNames.contains n = false) (k : Ok g c X st s) (hx : s.heap.get? x = some (instObj C dx)) (hm : s.heap.Ns dx m)
    (hv : m n = none) (a : At X s.heap d v) (hh : handedD d = true) (q : Q d st) : wpAny g.M c.A (getAttr (.ref x) n true) (Post g c X s Q) noE s := by
  obtain ⟨od, I, f⟩ := inst_at (X := X) hx hm
  obtain ⟨h1, h2⟩ := Bool.and_eq_true_iff.mp hk
  exact get_value k.base.kx I (plainGet_of h1).1 (findObj_cls h2 ha hg (handed_at a hh) hc ((f n).trans (by rw [hv]))) (handed_at a hh) ⟨d, st, X, k.tok.1, Mv.refl _ _, a, q⟩
variable {C x dx : Addr} {n : Str} {ns : List Str} {ds : List D} {d : D} {i : Int} {t : Tok}
theorem gq_own (hk : getOk g.K C = true) (ha : findIn g.K (.ref C) n = some none) (l : FLk n ns ds d) (hh : handedD d = true) (q : Q d st) : GetQ g c (.inst C ns ds) n st Q := fun X s v k a => by
  obtain ⟨x, dx, m, rfl, _, hx, _, hm, f, z⟩ := a
  obtain ⟨v, hv, av⟩ := f.get l
  exact get_own' hk ha k hx hm hv av hh q
theorem gq_clsInt (hk : getOk g.K C = true) (ha : findIn g.K (.ref C) n = some (some (.int i t))) (hg : specialIn g.K (.int i t) "__get__" = some none) (hc : copiedNames.contains n = false) (hn : ns.contains n = false) (q : Q (.int i) st) : GetQ g c (.inst C ns ds) n st Q := fun X s v k a => by
  obtain ⟨x, dx, m, rfl, _, hx, _, hm, f, z⟩ := a
  exact get_cls' hk ha hg hc k hx hm (z n fun h => by rw [List.contains_iff_mem.mpr h] at hn; cases hn) (d := .int i) ⟨t, rfl⟩ rfl q
inductive MLk (a : Addr) (u : Mu) : List (Addr × Mu) → Prop
  | here {l} : MLk a u ((a, u) :: l)
  | there {p l} : MLk a u l → MLk a u (p :: l)
theorem MLk.mem {a : Addr} {u : Mu} {l : List (Addr × Mu)} (h : MLk a u l) : (a, u) ∈ l := by
  induction h with
  | here => exact .head _
  | there _ ih => exact .tail _ ih
theorem gq_mown (hk : getOk g.K C = true) (ha : findIn g.K (.ref C) n = some none) (hm : MLk dx (.dict ns ds) st.mu) (l : FLk n ns ds d) (hh : handedD d = true) (q : Q d st) : GetQ g c (.minst C x dx) n st Q := fun X s v k a => by
  obtain ⟨rfl, _, hx⟩ := a
  obtain ⟨m, hm', f, z, _⟩ := k.mu _ hm.mem
  obtain ⟨v, hv, av⟩ := f.get l
  exact get_own' hk ha k hx hm'.ns hv av hh q
end
end Mine
open PySem PySem.W PySem.Calls PyProof.Rows
set_option maxRecDepth 100000
set_option Elab.async false
set_option maxHeartbeats 4000000
set_option linter.unusedVariables false
set_option linter.unusedSimpArgs false
namespace Mine

inductive MUp (a : Addr) (u : Mu) : List (Addr × Mu) → List (Addr × Mu) → Prop
  | here {u₀ l} : MUp a u ((a, u₀) :: l) ((a, u) :: l)
  | there {p l l'} : MUp a u l l' → MUp a u (p :: l) (p :: l')
theorem MUp.names {a : Addr} {u : Mu} {l l' : List (Addr × Mu)} (h : MUp a u l l') : l'.map (·.1) = l.map (·.1) := by
  induction h with
  | here => rfl
  | there _ ih => simp only [List.map_cons, ih]
theorem MUp.has {a : Addr} {u : Mu} {l l' : List (Addr × Mu)} (h : MUp a u l l') : a ∈ l.map (·.1) := by
  induction h with
  | here => exact .head _
  | there _ ih => exact .tail _ ih
theorem MUp.mem {a : Addr} {u : Mu} {l l' : List (Addr × Mu)} (h : MUp a u l l') (nd : (l.map (·.1)).Nodup) : ∀ p ∈ l', p = (a, u) ∨ (p ∈ l ∧ p.1 ≠ a) := by
  induction h with
  | here =>
    intro p hp
    rcases List.mem_cons.mp hp with rfl | hp
    · exact .inl rfl
    · refine .inr ⟨.tail _ hp, fun e => ?_⟩
      rw [List.map_cons, List.nodup_cons] at nd
      exact nd.1 (List.mem_map.mpr ⟨p, hp, e⟩)
  | there h ih =>
    intro p hp
    rw [List.map_cons, List.nodup_cons] at nd
    rcases List.mem_cons.mp hp with rfl | hp
    · exact .inr ⟨.head _, fun e => nd.1 (e ▸ h.has)⟩
    · rcases ih nd.2 p hp with h | h
      · exact .inl h
      · exact .inr ⟨.tail _ h.1, h.2⟩

section
variable {g : Gl} {c : Ctx} {st : St} {Q : D → St → Prop}

theorem Ok.upd {X : Addr → Prop} {s : Shared} {h' : Heap} {tk : Nat} {a : Addr} {u : Mu} {l cl mu mu'} (k : Ok g c X ⟨l, cl, mu⟩ s) (up : MUp a u mu mu') (hs : ∀ b o, b ≠ a → s.heap.get? b = some o → h'.get? b = some o)
    (hu : Mv X s.heap X h' → MAt X h' a u) : Ok g c X ⟨l, cl, mu'⟩ { s with heap := h', toks := tk } ∧ Mv X s.heap X h' := by
  have nd := k.nodup
  unfold own at nd
  rw [List.nodup_cons, List.nodup_append] at nd
  have mem : a ∈ own c ⟨l, cl, mu⟩ := by unfold own; exact .tail _ (List.mem_append_right _ up.has)
  have M : Mv X s.heap X h' := fun b o n e => ⟨n, hs b o (fun q => n (q ▸ (k.mine a mem).1)) e⟩
  obtain ⟨B, kp, _⟩ := k.but (h' := h') (tk := tk) mem hs (MAt.live (hu M))
  have own_eq : own c ⟨l, cl, mu'⟩ = own c ⟨l, cl, mu⟩ := by unfold own; rw [up.names]
  refine ⟨⟨k.cok, B, kp, k.xc, own_eq ▸ k.nodup, own_eq ▸ k.mine, k.names, ?_, ?_, ?_⟩, M⟩
  · obtain ⟨m, hm, r⟩ := k.loc
    have hL : c.env.locals ≠ a := fun e => nd.1 (List.mem_append_right _ (e ▸ up.has))
    exact ⟨m, hm.at' fun o e => hs _ _ hL e, fun p hp => ⟨(r p hp).1, (r p hp).2.1, fun d e => let ⟨v, a, b⟩ := (r p hp).2.2 d e; ⟨v, a, b.mv M⟩⟩⟩
  · intro p hp
    obtain ⟨x, y, z, o, v, d, e, f⟩ := k.cel p hp
    have ne : p.2.1 ≠ a := fun e => nd.2.2.2 _ (List.mem_map_of_mem (f := fun x : Str × Addr × Option D => x.2.1) hp) _ up.has e
    exact ⟨x, y, z, o, v, hs _ _ ne d, e, fun d' q => let ⟨v', x, y⟩ := f d' q; ⟨v', x, y.mv M⟩⟩
  · intro p hp
    rcases up.mem nd.2.2.1 p hp with rfl | ⟨hp, ne⟩
    · exact hu M
    · exact (k.mu p hp).mv M fun o e => hs _ _ ne e

/-! subscripts -/
noncomputable def plainSlice : Expr → Bool
  | .Slice .. => false
  | _ => true
theorem sub_plain {e : Expr} {o i : Value} (h : plainSlice e = true) : subscripted e false o i = operate [o, i] (getItem o i) := by cases e <;> first | rfl | cases h
noncomputable def ItQ (g : Gl) (c : Ctx) (value slice : Expr) (d i : D) (st : St) (Q : D → St → Prop) : Prop :=
  ∀ X s v iv, Ok g c X st s → At X s.heap d v → At X s.heap i iv → wpAny g.M c.A (subscriptTail value slice v iv) (Post g c X s Q) noE s
noncomputable abbrev KSub2 (g : Gl) (c : Ctx) (value slice : Expr) (Q : D → St → Prop) (d : D) : D → St → Prop := fun i st₂ => ItQ g c value slice d i st₂ Q
noncomputable abbrev KSub1 (g : Gl) (c : Ctx) (value slice : Expr) (Q : D → St → Prop) : D → St → Prop := fun d st₁ => EW g c slice st₁ (KSub2 g c value slice Q d)
theorem ew_sub {value slice : Expr} {pos : Pos} (h : EW g c value st (KSub1 g c value slice Q)) : EW g c (.Subscript value slice pos) st Q := fun X s k => by
  refine Subscript_ (wpAny_mono (h X s k) (fun v s₁ h₁ => ?_) fun _ _ z => z)
  obtain ⟨d, st₁, X₁, k₁, m₁, a₁, h₁⟩ := h₁
  refine wpAny_mono (h₁ X₁ s₁ k₁) (fun iv s₂ h₂ => ?_) fun _ _ z => z
  obtain ⟨i, st₂, X₂, k₂, m₂, a₂, q⟩ := h₂
  exact wpAny_mono (q X₂ s₂ v iv k₂ (a₁.mv m₂) a₂) (fun _ _ z => Post.up (m₁.trans m₂) z) fun _ _ z => z
theorem seqIndex_cases {i : Int} {n j : Nat} (h : seqIndex? i n = some j) : (0 ≤ i ∧ i.toNat = j ∧ i < n) ∨ (i < 0 ∧ -(n : Int) ≤ i ∧ (i + n).toNat = j) := by
  unfold seqIndex? at h
  by_cases hi : i < 0
  · simp only [hi, if_true] at h
    split at h
    · rename_i q
      simp only [Bool.and_eq_true, decide_eq_true_eq] at q
      cases h
      exact .inr ⟨hi, by (first | lia | omega), rfl⟩
    · cases h
  · simp only [hi, if_false] at h
    split at h
    · rename_i q
      simp only [Bool.and_eq_true, decide_eq_true_eq] at q
      cases h
      exact .inl ⟨by (first | lia | omega), rfl, by (first | lia | omega)⟩
    · cases h
noncomputable def inI (i : Int) : Bool := decide (-(2 ^ 63) ≤ i) && decide (i < 2 ^ 63)
theorem inI_of {i : Int} (h : inI i = true) : -(2 ^ 63) ≤ i ∧ i < 2 ^ 63 := by simpa [inI] using h
theorem it_list {X : Addr → Prop} {s : Shared} {value slice : Expr} {a : Addr} {ds : List D} {vs : List Value} {i : Int} {t : Tok} {j : Nat} {d : D} (k : Ok g c X st s) (hs : plainSlice slice = true) (hl : s.heap.PlainList a vs.toArray) (ha : Ats X s.heap ds vs)
    (hi : inI i = true) (hj : seqIndex? i ds.length = some j) (hd : ds[j]? = some d) (q : Q d st) : wpAny g.M c.A (subscriptTail value slice (.ref a) (.int i t)) (Post g c X s Q) noE s := by
  obtain ⟨v, hv, av⟩ := ha.get hd
  obtain ⟨h1, h2⟩ := inI_of hi
  have e := ha.length
  have p : Post g c X s Q v s := ⟨d, st, X, k, .refl _ _, av, q⟩
  refine tail_any hl.isList.typeIs slot_list_getitem.lookup ?_ (sub_plain hs)
  rcases seqIndex_cases hj with ⟨x, y, z⟩ | ⟨x, y, z⟩
  · exact wpAny_getItem_list hl.isList x h2 (by rw [y]; simpa using hv) p
  · exact wpAny_getItem_list_neg hl.isList x (by simpa [e] using y) h1 (by simp only [List.size_toArray, e]; rw [z]; simpa using hv) p
variable {value slice : Expr} {i : Int} {ds : List D} {j : Nat} {d : D} {a : Addr} {b : Bool}
theorem it_tup (hs : plainSlice slice = true) (hi : inI i = true) (hj : seqIndex? i ds.length = some j) (hd : ds[j]? = some d) (q : Q d st) : ItQ g c value slice (.tup ds) (.int i) st Q := fun X s v iv k av ai => by
  obtain ⟨a, vs, rfl, _, ht, ha⟩ := av
  obtain ⟨t, rfl⟩ := ai
  obtain ⟨v, hv, av⟩ := ha.get hd
  obtain ⟨h1, h2⟩ := inI_of hi
  exact item_tupleT ht h1 h2 (by rw [ha.length]; exact hj) hv ⟨d, st, X, k, .refl _ _, av, q⟩ (sub_plain hs)
theorem it_lst (hs : plainSlice slice = true) (hi : inI i = true) (hj : seqIndex? i ds.length = some j) (hd : ds[j]? = some d) (q : Q d st) : ItQ g c value slice (.lst ds) (.int i) st Q := fun X s v iv k av ai => by
  obtain ⟨a, vs, rfl, _, ht, ha⟩ := av
  obtain ⟨t, rfl⟩ := ai
  exact it_list k hs ht ha hi hj hd q
theorem it_mlst (hm : MLk a (.lst ds) st.mu) (hs : plainSlice slice = true) (hi : inI i = true) (hj : seqIndex? i ds.length = some j) (hd : ds[j]? = some d) (q : Q d st) : ItQ g c value slice (.mlst a) (.int i) st Q := fun X s v iv k av ai => by
  obtain rfl : v = .ref a := av
  obtain ⟨t, rfl⟩ := ai
  obtain ⟨vs, hl, ha⟩ := k.mu _ hm.mem
  exact it_list k hs hl ha hi hj hd q

/-! methods -/
theorem noStars_all {env : Env} {pos : Pos} : ∀ {es : List Expr}, noStars es = true → (backTo pos (starEach es env)).all (fun x => !x.1) = true
  | [], _ => rfl
  | e :: es, h => by
    obtain ⟨h1, h2⟩ := Bool.and_eq_true_iff.mp h
    rw [starEach_cons h1]
    show (true && (backTo pos (starEach es env)).all (fun x => !x.1)) = true
    rw [noStars_all h2]; rfl
theorem shortE_len {es : List Expr} (h : shortE 20 es = true) : decide (es.length + 0 + 0 < 30) = true := by
  have := shortE_le h
  exact decide_eq_true (by (first | lia | omega))
theorem methodCall_of {M : Model} {A : Around} {E : Value → Shared → Prop} {s : Shared} {env : Env} {K : Frag} {o : Expr} {name : Str} {apos pos : Pos} {args : List Expr} {ov f : Value} {first : List Value} {Q : Value → Shared → Prop} (hs : noStars args = true) (hz : shortE 20 args = true) (hl : (apos.endLine == pos.line) = true)
    (hm : ∀ pl Q', Q' (f, first) s → wpAny M A (getMethod ov name pl) Q' E s) (hk : (keepIn K f || builtinly f) = true)
    (h : wpAny M A (spliced (backTo pos (starEach args env))) (fun vs s₁ => K.In s₁.heap ∧ wpAny M A (call f (first ++ vs) []) Q E s₁) E s) :
    wpAny M A (methodCall o name apos pos env ov (args.length + 0) (backTo pos (starEach args env)) (backToKw pos (keywordEach [] env))) Q E s := by
  have hform : methodCallForm (args.length + 0) (backTo pos (starEach args env)) (backToKw pos (keywordEach [] env)) = true := by
    show (_ && true && decide (args.length + 0 + 0 < 30)) = true
    rw [noStars_all hs, shortE_len hz]; rfl
  have hpos : methodCallPos true o env apos pos = pure pos := by unfold methodCallPos; simp [hl]
  unfold methodCall
  rw [hform]
  refine wpAny_bind (wpAny_holding ?_)
  unfold calleeOf
  simp only [if_true]
  refine hm _ _ ?_
  exact wpAny_bind (wpAny_of_eq hpos (callWith_any hk (backTo_plain hs) h))
/-- the method of a value -/
noncomputable def MeQ (g : Gl) (c : Ctx) (d : D) (name : Str) (args : List Expr) (st : St) (Q : D → St → Prop) : Prop :=
  ∃ f d₀, (keepIn g.K f || builtinly f) = true ∧ (∀ X s v, Ok g c X st s → At X s.heap d v → (At X s.heap d₀ v ∧ ∀ pl Q', Q' (f, [v]) s → wpAny g.M c.A (getMethod v name pl) Q' noE s)) ∧ LW g c args st (KMe g c Q f d₀)
noncomputable abbrev KMeth (g : Gl) (c : Ctx) (name : Str) (args : List Expr) (Q : D → St → Prop) : D → St → Prop := fun d st₁ => MeQ g c d name args st₁ Q
theorem ew_meth {o : Expr} {name : Str} {apos pos : Pos} {args : List Expr} (hb : plainBase o = true) (hs : noStars args = true) (hz : shortE 20 args = true) (hl : (apos.endLine == pos.line) = true)
    (h : EW g c o st (KMeth g c name args Q)) : EW g c (.Call (.Attribute o name apos) args [] pos) st Q := fun X s k => by
  show wpAny _ _ (eval (.Call (.Attribute o name apos) args [] pos) c.env) _ _ _
  rw [arm_eval_Call, base_plain hb]
  refine wpAny_bind (wpAny_mono (h X s k) (fun v s₁ h₁ => wpAny_bind (wpAny_standAt ?_)) fun _ _ z => z)
  obtain ⟨d, st₁, X₁, k₁, m₁, a₁, f, d₀, hk, hm, h₁⟩ := h₁
  obtain ⟨a₀, hm⟩ := hm X₁ s₁ v k₁ a₁
  refine methodCall_of hs hz hl hm hk (wpAny_mono (h₁ pos X₁ s₁ k₁) (fun vs s₂ h₂ => ?_) fun _ _ z => z)
  obtain ⟨ds, st₂, X₂, k₂, m₂, a₂, _, q⟩ := h₂
  exact ⟨k₂.base.kx, wpAny_mono (q X₂ s₂ (v :: vs) k₂ ⟨v, vs, rfl, a₀.mv m₂, a₂⟩) (fun _ _ z => Post.up (m₁.trans m₂) z) fun _ _ z => z⟩
variable {name : Str} {args : List Expr} {C x dx : Addr} {ns : List Str} {f : Addr}
theorem me_minst (hk : getOk g.K C = true) (hf : findIn g.K (.ref C) name = some (some (.ref f))) (ht : isFn g.K (.ref f) = true) (hkf : keepIn g.K (.ref f) = true) (hm : MLk dx (.dict ns ds) st.mu) (hn : ns.contains name = false)
    (h : LW g c args st (KMe g c Q (.ref f) (.minst C x dx))) : MeQ g c (.minst C x dx) name args st Q := by
  refine ⟨.ref f, .minst C x dx, by rw [hkf]; rfl, fun X s v k a => ⟨a, fun pl Q' q => ?_⟩, h⟩
  obtain ⟨rfl, _, hx⟩ := a
  obtain ⟨m, hm', _, z, _⟩ := k.mu _ hm.mem
  obtain ⟨od, I, hl⟩ := inst_at (X := X) hx hm'.ns
  obtain ⟨h1, h2⟩ := Bool.and_eq_true_iff.mp hk
  refine method_fn k.base.kx I (plainGet_of h1).1 (plainGet_of h1).2 hf (beq_iff_eq.mp ht) ?_ q
  show (lookIn name od).map _ = _
  rw [hl, z name (fun h => by rw [List.contains_iff_mem.mpr h] at hn; cases hn)]; rfl
theorem me_list {id : String} (slot : Slot "list" name id) (hty : typeOf (.builtin id) = pure (.type "method_descriptor")) (hm : MLk a (.lst ds) st.mu) (h : LW g c args st (KMe g c Q (.builtin id) (.mlst a))) : MeQ g c (.mlst a) name args st Q := by
  refine ⟨.builtin id, .mlst a, by simp [builtinly], fun X s v k av => ⟨av, fun pl Q' q => ?_⟩, h⟩
  obtain rfl : v = .ref a := av
  obtain ⟨vs, ⟨n, hl⟩, _⟩ := k.mu _ hm.mem
  exact getMethod_builtin ⟨_, hl, rfl⟩ PySem.F.plainAttrs_list slot hty (fun a e => by cases e; exact ⟨_, hl, rfl⟩) q
theorem cq_append {l cl mu mu'} (hm : MLk a (.lst ds) mu) (hz : ds.length ≤ 2 ^ 24) (up : MUp a (.lst (ds ++ [d])) mu mu') (q : Q .none ⟨l, cl, mu'⟩) : CallQ g c (.builtin "list.append") [.mlst a, d] ⟨l, cl, mu⟩ Q := fun X s vs k av => by
  obtain ⟨v, r, rfl, a1, v₂, r₂, rfl, a2, a3⟩ := av
  obtain rfl : r₂ = [] := a3
  obtain rfl : v = .ref a := a1
  obtain ⟨vs, hl, ha⟩ := k.mu _ hm.mem
  refine wpAny_list_append_plain hl (fun h' hl' hsb => ?_) (by rw [List.size_toArray, ha.length, sizeLine_eq]; (first | lia | omega))
  obtain ⟨k', M⟩ := k.upd (h' := h') (tk := s.toks) up (fun b o n e => hsb.extBut b o n e) fun M => ⟨vs ++ [v₂], by simpa using hl', (ha.mv M).append (Ats.one (a2.mv M))⟩
  exact ⟨.none, _, X, k', M, rfl, q⟩
end
end Mine
open PySem PySem.W PySem.Calls PyProof.Rows
set_option maxRecDepth 100000
set_option Elab.async false
set_option maxHeartbeats 4000000
set_option linter.unusedVariables false
set_option linter.unusedSimpArgs false
namespace Mine

/-! a dict's new entry -/
inductive DPut (n : Str) (d : D) : List Str → List D → List Str → List D → Prop
  | up {ns ds ds'} : FUp n d ns ds ds' → DPut n d ns ds ns ds'
  | new {ns ds} : ns.contains n = false → DPut n d ns ds (n :: ns) (d :: ds)
theorem Fs.other {X : Addr → Prop} {h : Heap} {n : Str} {v : Value} {m : Str → Option Value} : ∀ {ds : List D} {ns : List Str}, n ∉ ns → Fs X h ds ns m → Fs X h ds ns (fun x => if x = n then some v else m x)
  | [], _, _, f => f
  | d :: ds, ns, hn, f => by
    obtain ⟨n', r, rfl, ⟨v', hv, a⟩, b⟩ := f
    have ne : n' ≠ n := fun e => hn (e ▸ .head _)
    exact ⟨n', r, rfl, ⟨v', by simp [ne, hv], a⟩, Fs.other (fun h => hn (.tail _ h)) b⟩
theorem Fs.up {X : Addr → Prop} {h : Heap} {n : Str} {d : D} {v : Value} {m : Str → Option Value} {ns : List Str} {ds ds' : List D} (u : FUp n d ns ds ds') (nd : ns.Nodup) (f : Fs X h ds ns m) (a : At X h d v) : Fs X h ds' ns (fun x => if x = n then some v else m x) := by
  induction u with
  | here =>
    rw [List.nodup_cons] at nd
    obtain ⟨n', r, e, _, b⟩ := f
    cases e
    exact ⟨_, _, rfl, ⟨v, by simp, a⟩, b.other nd.1⟩
  | @there n' ns₁ d₁ ds₁ ds₁' u ih =>
    rw [List.nodup_cons] at nd
    obtain ⟨n₂, r, e, ⟨v', hv, a'⟩, b⟩ := f
    cases e
    have has : ∀ {ns ds ds'}, FUp n d ns ds ds' → n ∈ ns := by
      intro ns ds ds' u
      induction u with
      | here => exact .head _
      | there _ ih => exact .tail _ ih
    have ne : n' ≠ n := fun e => nd.1 (e ▸ has u)
    exact ⟨_, _, rfl, ⟨v', by simp [ne, hv], a'⟩, ih nd.2 b⟩
theorem FUp.has {n : Str} {d : D} {ns : List Str} {ds ds' : List D} (u : FUp n d ns ds ds') : n ∈ ns := by
  induction u with
  | here => exact .head _
  | there _ ih => exact .tail _ ih
theorem MAt.put {X : Addr → Prop} {h' : Heap} {dx : Addr} {n : Str} {d : D} {v : Value} {m : Str → Option Value} {ns ns' : List Str} {ds ds' : List D} (p : DPut n d ns ds ns' ds') (hm' : h'.Ns1 dx (fun x => if x = n then some v else m x)) (f : Fs X h' ds ns m) (z : ∀ n, n ∉ ns → m n = none) (nd : ns.Nodup)
    (a : At X h' d v) : MAt X h' dx (.dict ns' ds') := by
  cases p with
  | up u => exact ⟨_, hm', f.up u nd a, fun n' hn => by have : n' ≠ n := fun e => hn (e ▸ u.has); simp [this, z n' hn], nd⟩
  | new hc =>
    have hn : n ∉ ns := fun h => by rw [List.contains_iff_mem.mpr h] at hc; cases hc
    refine ⟨_, hm', ⟨n, ns, rfl, ⟨v, by simp, a⟩, f.other hn⟩, fun n' h => ?_, List.nodup_cons.mpr ⟨hn, nd⟩⟩
    simp only [List.mem_cons, not_or] at h
    simp [h.1, z n' h.2]

noncomputable def shortN : Nat → List Str → Bool
  | _, [] => true
  | 0, _ :: _ => false
  | n + 1, _ :: r => shortN n r
theorem shortN_le : ∀ {n : Nat} {es : List Str}, shortN n es = true → es.length ≤ n
  | _, [], _ => Nat.zero_le _
  | 0, _ :: _, h => by cases h
  | n + 1, _ :: r, h => Nat.succ_le_succ (shortN_le (n := n) (es := r) h)
noncomputable def setOk (K : Frag) (C : Addr) : Bool := findIn K (.ref C) "__setattr__" == some (some (.builtin "object.__setattr__")) && plainOver K C && hasDictIn K C

theorem wpAny_setItem_plain {prog : Program} {w : World} {A : Around} {E : Value → Shared → Prop} {s : Shared} {l : Addr} {items : Array Value} {k : Int} {t : Tok} {v : Value} {Q : Unit → Shared → Prop} (hl : s.heap.PlainList l items)
    (h0 : 0 ≤ k) (hfit : k < 2 ^ 63) (hn : k < items.size)
    (hQ : ∀ h', h'.PlainList l (items.setIfInBounds k.toNat v) → Heap.SameBut l s.heap h' → Q () { s with heap := h' }) :
    wpAny (model prog w) A (setItem (.ref l) (.int k t) v) Q E s := by
  obtain ⟨n, ho⟩ := id hl
  unfold setItem
  try with_reducible refine wpAny_holding ?_
  first | refine wpAny_bind (wpAny_pure ?_) | skip
  refine wpAny_bind (wpAny_sequenceKey hl.isList.typeIs (by decide) ?_)
  refine wpAny_bind (wpAny_callSpecial?_slot (name := Str.ofString "__setitem__") hl.isList.typeIs slot_list_setitem
    (wpAny_call_entry slot_list_setitem hl.isList.typeIs entry_list_setitem ?_ (args_list_setitem _ _ _)))
  show wpAny _ _ (Builtin.List.listSubscript? (.int k t) >>= _) _ _ s
  refine wpAny_bind (wpAny_listSubscript_int (fitsIndex_of h0 hfit) ?_)
  clear hfit
  obtain ⟨j, rfl⟩ := Int.eq_ofNat_of_zero_le h0
  have hj : j < items.size := by (first | lia | omega)
  have hx' : items[j]? = some items[j] := Array.getElem?_eq_getElem hj
  show wpAny _ _ ((seqItemAt l j >>= fun r => pure (r.map (j, ·))) >>= _) _ _ s
  refine wpAny_bind (wpAny_bind (wpAny_seqItemAt ho rfl (wpAny_pure ?_)))
  rw [hx']
  show wpAny _ _ (setSeqItemAt l j v >>= _) _ _ s
  have hfin : (s.heap.update l (Obj.mapSeq (·.setIfInBounds j v))).PlainList l (items.setIfInBounds j v) := ⟨_, PySem.IsL.update ho (·.setIfInBounds j v)⟩
  refine wpAny_bind (wpAny_setSeqItemAt ho rfl ?_)
  first
    | exact wpAny_bind (wpAny_pure (wpAny_pure ⟨.none, rfl, wpAny_pure (hQ _ hfin (Heap.SameBut.update ..))⟩))
    | exact wpAny_pure ⟨.none, rfl, wpAny_pure (hQ _ hfin (Heap.SameBut.update ..))⟩

section
variable {g : Gl} {c : Ctx} {st : St} {Q : D → St → Prop}

noncomputable def SetQ (g : Gl) (c : Ctx) (d : D) (n : Str) (d' : D) (st : St) (Q : St → Prop) : Prop :=
  ∀ X s v v', Ok g c X st s → At X s.heap d v → At X s.heap d' v' → wpAny g.M c.A (setAttr v n v') (PostU g c X s Q) noE s
theorem sq_minst {C x dx : Addr} {n : Str} {d : D} {ns ns' : List Str} {ds ds' : List D} {l cl mu mu'} {Q : St → Prop} (hk : setOk g.K C = true) (ht : takerIn g.K C n = some none) (hm : MLk dx (.dict ns ds) mu) (hp : DPut n d ns ds ns' ds') (hz : shortN 40 ns = true)
    (up : MUp dx (.dict ns' ds') mu mu') (q : Q ⟨l, cl, mu'⟩) : SetQ g c (.minst C x dx) n d ⟨l, cl, mu⟩ Q := fun X s v v' k a a' => by
  obtain ⟨rfl, _, hx⟩ := a
  obtain ⟨m, hm', f, z, nd⟩ := k.mu _ hm.mem
  obtain ⟨od, I, hl⟩ := inst_at (X := X) hx hm'.ns
  obtain ⟨⟨h1, h2⟩, h3⟩ : (_ ∧ _) ∧ _ := by simpa only [setOk, Bool.and_eq_true] using hk
  have kx := k.base.kx
  refine set_plain kx I (beq_iff_eq.mp h1) (osa_open (s := { s with toks := s.toks + 1 }) kx I h2 ht fun b => ?_)
  obtain ⟨cd, hc, hd'⟩ := any_some h3
  refine wpAny_bind (wpAny_pure (wpAny_bind (wpAny_bind (wpAny_loadPart hx (wpAny_bind ((looks_clsIn kx hc).at ?_))))))
  rw [hd']
  refine wpAny_pure (a := some dx) (wpAny_bind (wpAny_pure (wpAny_bind ?_)))
  have hw : Within m ns := fun y hy => Classical.byContradiction fun h => hy (z y h)
  refine wpAny_nsSet1 hm' fun h' hn' hs => ?_
  obtain ⟨oD, esD, epD, hoD, hdD, hcD⟩ := hn'.count (Within.cons n v' hw)
  have hz' := shortN_le hz
  refine wpAny_bind (wpAny_lookBehind hoD (by rw [hdD]; exact pastItsLine_dict (Nat.le_trans hcD (by rw [List.length_cons, sizeLine_eq]; (first | lia | omega)))) ?_)
  obtain ⟨k', M⟩ := k.upd (h' := h') (tk := s.toks + 1 + 1) up (fun b o n e => hs.extBut b o n e) fun M => MAt.put hp hn' (f.mv M) z nd (a'.mv M)
  exact wpAny_pure ⟨_, X, k', M, q⟩

/-! other targets -/
noncomputable abbrev KSetA (g : Gl) (c : Ctx) (n : Str) (d : D) (Q : St → Prop) : D → St → Prop := fun d₀ st₁ => SetQ g c d₀ n d st₁ Q
theorem as_attr {o : Expr} {n : Str} {pos : Pos} {d : D} {Q : St → Prop} (h : EW g c o st (KSetA g c n d Q)) : ASW g c (.Attribute o n pos) d st Q := fun X s v k a => by
  refine kas_attr (wpAny_mono (h X s k) (fun ov s₁ h₁ => ?_) fun _ _ z => z)
  obtain ⟨d₀, st₁, X₁, k₁, m₁, a₁, q⟩ := h₁
  exact wpAny_mono (q X₁ s₁ ov v k₁ a₁ (a.mv m₁)) (fun _ _ z => PostU.up m₁ z) fun _ _ z => z
noncomputable def SetI (g : Gl) (c : Ctx) (d i d' : D) (st : St) (Q : St → Prop) : Prop :=
  ∀ X s v iv v', Ok g c X st s → At X s.heap d v → At X s.heap i iv → At X s.heap d' v' → wpAny g.M c.A (setItem v iv v') (PostU g c X s Q) noE s
noncomputable abbrev KSetS2 (g : Gl) (c : Ctx) (d : D) (Q : St → Prop) (d₀ : D) : D → St → Prop := fun di st₂ => SetI g c d₀ di d st₂ Q
noncomputable abbrev KSetS1 (g : Gl) (c : Ctx) (i : Expr) (d : D) (Q : St → Prop) : D → St → Prop := fun d₀ st₁ => EW g c i st₁ (KSetS2 g c d Q d₀)
theorem as_sub {o i : Expr} {pos : Pos} {d : D} {Q : St → Prop} (h : EW g c o st (KSetS1 g c i d Q)) : ASW g c (.Subscript o i pos) d st Q := fun X s v k a => by
  refine kas_sub (wpAny_mono (h X s k) (fun ov s₁ h₁ => ?_) fun _ _ z => z)
  obtain ⟨d₀, st₁, X₁, k₁, m₁, a₁, h₁⟩ := h₁
  refine wpAny_mono (h₁ X₁ s₁ k₁) (fun iv s₂ h₂ => ?_) fun _ _ z => z
  obtain ⟨di, st₂, X₂, k₂, m₂, a₂, q⟩ := h₂
  exact wpAny_mono (q X₂ s₂ ov iv v k₂ (a₁.mv m₂) a₂ (a.mv (m₁.trans m₂))) (fun _ _ z => PostU.up (m₁.trans m₂) z) fun _ _ z => z
theorem Ats.set {X : Addr → Prop} {h : Heap} {d : D} {v : Value} (a : At X h d v) : ∀ {ds : List D} {vs : List Value} (n : Nat), Ats X h ds vs → Ats X h (ds.set n d) (vs.set n v)
  | [], _, _, k => by rw [show _ = [] from k, List.set_nil, List.set_nil]; exact (rfl : ([] : List Value) = [])
  | _ :: _, _, 0, k => by
    obtain ⟨v', r, rfl, _, b⟩ := k
    exact ⟨v, r, rfl, a, b⟩
  | _ :: _, _, n + 1, k => by
    obtain ⟨v', r, rfl, a', b⟩ := k
    exact ⟨v', _, rfl, a', Ats.set a n b⟩
theorem si_mlst {a : Addr} {ds : List D} {i : Int} {d : D} {l cl mu mu'} {Q : St → Prop} (hm : MLk a (.lst ds) mu) (h0 : 0 ≤ i) (hi : inI i = true) (hn : i < ds.length) (up : MUp a (.lst (ds.set i.toNat d)) mu mu') (q : Q ⟨l, cl, mu'⟩) : SetI g c (.mlst a) (.int i) d ⟨l, cl, mu⟩ Q := fun X s v iv v' k av ai ad => by
  obtain rfl : v = .ref a := av
  obtain ⟨t, rfl⟩ := ai
  obtain ⟨vs, hl, ha⟩ := k.mu _ hm.mem
  have e := ha.length
  refine wpAny_setItem_plain hl h0 (inI_of hi).2 (by rw [List.size_toArray, e]; exact hn) fun h' hl' hsb => ?_
  obtain ⟨k', M⟩ := k.upd (h' := h') (tk := s.toks) up (fun b o n e => hsb.extBut b o n e) fun M => ⟨vs.set i.toNat v', by simpa using hl', Ats.set (ad.mv M) _ (ha.mv M)⟩
  exact ⟨_, X, k', M, q⟩
noncomputable def oneTarget : Expr → Bool
  | .Attribute .. => true
  | .Subscript .. => true
  | _ => false
theorem xw_asg {t e : Expr} {pos : Pos} {Q : Fl → St → Prop} (ht : oneTarget t = true) (hc : notComp e = true) (h : EW g c e st (KAsg g c t (Q .next))) : XW1 g c (.Assign [t] e pos) st Q := fun X s k => by
  refine wpAny_Assign_stores (wpAny_mono (h X s k) (fun v s' h' => ?_) fun _ _ z => z) (show swapsWith e (some t) pos.line c.env = pure false from notComp_swaps hc) (by cases t <;> first | rfl | cases ht)
  obtain ⟨d, st₁, X₁, k₁, m₁, a₁, q⟩ := h'
  rw [assignEach_cons (by cases t <;> first | rfl | cases ht)]
  show wpAny g.M c.A (assign t c.env v) _ _ _
  refine wpAny_mono (q X₁ s' v k₁ a₁) (fun _ _ z => ?_) fun _ _ z => z
  obtain ⟨st₂, X₂, k₂, m₂, q⟩ := z
  exact ⟨.next, st₂, X₂, k₂, m₁.trans m₂, rfl, q⟩

/-! += -/
inductive KAug3 (g : Gl) (c : Ctx) (n : Str) (Q : St → Prop) (d₀ old d : D) (st : St) : Prop
  | mk (i j : Int) (e : old = .int i) (e' : d = .int j) (h : SetQ g c d₀ n (.int (i + j)) st Q)
noncomputable abbrev KAug2 (g : Gl) (c : Ctx) (n : Str) (value : Expr) (Q : St → Prop) (d₀ : D) : D → St → Prop := fun old st₂ => EW g c value st₂ (KAug3 g c n Q d₀ old)
noncomputable abbrev KAug1 (g : Gl) (c : Ctx) (n : Str) (value : Expr) (Q : St → Prop) : D → St → Prop := fun d₀ st₁ => GetQ g c d₀ n st₁ (KAug2 g c n value Q d₀)
theorem xw_augAttr {o value : Expr} {n : Str} {tp pos : Pos} {Q : Fl → St → Prop}
    (h : EW g c o st (KAug1 g c n value (Q .next))) : XW1 g c (.AugAssign (.Attribute o n tp) .Add value pos) st Q := fun X s k => by
  refine wpAny_AugAssign_AttributeAny (wpAny_mono (h X s k) (fun ov s₁ h₁ => ?_) fun _ _ z => z)
  obtain ⟨d₀, st₁, X₁, k₁, m₁, a₁, h₁⟩ := h₁
  refine wpAny_mono (h₁ X₁ s₁ ov k₁ a₁) (fun old s₂ h₂ => ?_) fun _ _ z => z
  obtain ⟨dold, st₂, X₂, k₂, m₂, a₂, h₂⟩ := h₂
  refine wpAny_mono (h₂ X₂ s₂ k₂) (fun v s₃ h₃ => ?_) fun _ _ z => z
  obtain ⟨d, st₃, X₃, k₃, m₃, a₃, i, j, rfl, rfl, q⟩ := h₃
  obtain ⟨t, rfl⟩ := a₂
  obtain ⟨u, rfl⟩ := a₃
  refine wpAny_iadd_int ?_
  obtain ⟨k₄, m₄⟩ := k₃.tok (n := s₃.toks + 1)
  refine wpAny_mono (q X₃ { s₃ with toks := s₃.toks + 1 } ov _ k₄ ((a₁.mv m₂).mv m₃) ⟨_, rfl⟩) (fun _ _ z => ?_) fun _ _ z => z
  obtain ⟨st', X', k', m', q⟩ := z
  exact ⟨.next, st', X', k', ((m₁.trans m₂).trans m₃).trans m', rfl, q⟩
theorem xw_augSub {o i value : Expr} {tp pos : Pos} {Q : Fl → St → Prop} (hs : plainSlice i = true)
    (h : EW g c o st fun d₀ st₁ => EW g c i st₁ fun di st₂ => ∃ a ds k j w, d₀ = .mlst a ∧ di = .int k ∧ MLk a (.lst ds) st₂.mu ∧ 0 ≤ k ∧ inI k = true ∧ k < ds.length ∧ ds[k.toNat]? = some (.int w) ∧
      EW g c value st₂ fun d st₃ => d = .int j ∧ SetI g c d₀ di (.int (w + j)) st₃ (Q .next)) : XW1 g c (.AugAssign (.Subscript o i tp) .Add value pos) st Q := fun X s k => by
  refine wpAny_AugAssign_SubscriptAny (wpAny_mono (h X s k) (fun ov s₁ h₁ => ?_) fun _ _ z => z) (by intros; cases i <;> first | rfl | cases hs)
  obtain ⟨d₀, st₁, X₁, k₁, m₁, a₁, h₁⟩ := h₁
  refine wpAny_mono (h₁ X₁ s₁ k₁) (fun iv s₂ h₂ => ?_) fun _ _ z => z
  obtain ⟨di, st₂, X₂, k₂, m₂, a₂, a, ds, i, j, w, rfl, rfl, hm, h0, hi, hn, hd, h₂⟩ := h₂
  obtain rfl : ov = .ref a := a₁
  obtain ⟨t, rfl⟩ := a₂
  obtain ⟨vs, hl, ha⟩ := k₂.mu _ hm.mem
  obtain ⟨v, hv, av⟩ := ha.get hd
  obtain ⟨u, rfl⟩ := av
  refine wpAny_getItem_list hl.isList h0 (inI_of hi).2 (by simpa using hv) ?_
  refine wpAny_mono (h₂ X₂ s₂ k₂) (fun v s₃ h₃ => ?_) fun _ _ z => z
  obtain ⟨d, st₃, X₃, k₃, m₃, a₃, rfl, q⟩ := h₃
  obtain ⟨u', rfl⟩ := a₃
  refine wpAny_iadd_int ?_
  obtain ⟨k₄, m₄⟩ := k₃.tok (n := s₃.toks + 1)
  refine wpAny_mono (q X₃ { s₃ with toks := s₃.toks + 1 } (.ref a) (.int i t) _ k₄ rfl ⟨_, rfl⟩ ⟨_, rfl⟩) (fun _ _ z => ?_) fun _ _ z => z
  obtain ⟨st', X', k', m', q⟩ := z
  exact ⟨.next, st', X', k', ((m₁.trans m₂).trans m₃).trans m', rfl, q⟩
end
end Mine
open PySem PySem.W PySem.Calls PyProof.Rows
set_option maxRecDepth 100000
set_option Elab.async false
set_option maxHeartbeats 4000000
set_option linter.unusedVariables false
set_option linter.unusedSimpArgs false
namespace Mine

/-! a mutable object is no longer changed -/
inductive Rm (a : Addr) (u : Mu) : List (Addr × Mu) → List (Addr × Mu) → Prop
  | here {l} : Rm a u ((a, u) :: l) l
  | there {p l l'} : Rm a u l l' → Rm a u (p :: l) (p :: l')
theorem Rm.perm {a : Addr} {u : Mu} {l l' : List (Addr × Mu)} (h : Rm a u l l') : l.Perm ((a, u) :: l') := by
  induction h with
  | here => exact .refl _
  | there _ ih => exact (ih.cons _).trans (List.Perm.swap ..)
inductive Fz0 (a : Addr) (u : Mu) : D → D → Prop
  | same {d} : Fz0 a u d d
  | lst {ds} : u = .lst ds → Fz0 a u (.mlst a) (.lst ds)
  | inst {C x ns ds} : u = .dict ns ds → Fz0 a u (.minst C x a) (.inst C ns ds)
inductive FzL (a : Addr) (u : Mu) : List D → List D → Prop
  | nil : FzL a u [] []
  | cons {d d' ds ds'} : Fz0 a u d d' → FzL a u ds ds' → FzL a u (d :: ds) (d' :: ds')
inductive Fz (a : Addr) (u : Mu) : D → D → Prop
  | one {d d'} : Fz0 a u d d' → Fz a u d d'
  | tup {ds ds'} : FzL a u ds ds' → Fz a u (.tup ds) (.tup ds')
inductive Lz (a : Addr) (u : Mu) : List (Str × Option D) → List (Str × Option D) → Prop
  | nil : Lz a u [] []
  | cons {p l l'} : Lz a u l l' → Lz a u (p :: l) (p :: l')
  | turn {n d d' l l'} : Fz0 a u d d' → Lz a u l l' → Lz a u ((n, some d) :: l) ((n, some d') :: l')
inductive Cz (a : Addr) (u : Mu) : List (Str × Addr × Option D) → List (Str × Addr × Option D) → Prop
  | nil : Cz a u [] []
  | cons {p l l'} : Cz a u l l' → Cz a u (p :: l) (p :: l')
  | turn {n ca d d' l l'} : Fz0 a u d d' → Cz a u l l' → Cz a u ((n, ca, some d) :: l) ((n, ca, some d') :: l')
section
variable {a : Addr} {u : Mu} {X X' : Addr → Prop} {h : Heap}
theorem Fz0.at_ {d d' : D} {v : Value} (z : Fz0 a u d d') (nx : ¬ X a) (hu : MAt X h a u) (k : At X h d v) : At X h d' v := by
  cases z with
  | same => exact k
  | lst e =>
    subst e
    obtain rfl : v = .ref a := k
    obtain ⟨vs, hl, ha⟩ := hu
    exact ⟨a, vs, rfl, nx, hl, ha⟩
  | inst e =>
    subst e
    obtain ⟨rfl, hx, hg⟩ := k
    obtain ⟨m, hm, f, z, _⟩ := hu
    exact ⟨_, a, m, rfl, hx, hg, nx, hm.ns, f, z⟩
theorem FzL.at_ {ds ds' : List D} (z : FzL a u ds ds') (nx : ¬ X a) (hu : MAt X h a u) : ∀ {vs : List Value}, Ats X h ds vs → Ats X h ds' vs := by
  induction z with
  | nil => exact fun k => k
  | cons z _ ih =>
    intro vs k
    obtain ⟨v, r, rfl, a1, a2⟩ := k
    exact ⟨v, r, rfl, z.at_ nx hu a1, ih a2⟩
theorem Fz.at_ {d d' : D} {v : Value} (z : Fz a u d d') (nx : ¬ X a) (hu : MAt X h a u) (k : At X h d v) : At X h d' v := by
  cases z with
  | one z => exact z.at_ nx hu k
  | tup z =>
    obtain ⟨b, vs, e, n, t, r⟩ := k
    exact ⟨b, vs, e, n, t, z.at_ nx hu r⟩
theorem Lz.names {l l' : List (Str × Option D)} (z : Lz a u l l') : l'.map (·.1) = l.map (·.1) := by
  induction z with
  | nil => rfl
  | cons _ ih => simp only [List.map_cons, ih]
  | turn _ _ ih => simp only [List.map_cons, ih]
theorem Lz.mem {l l' : List (Str × Option D)} (z : Lz a u l l') : ∀ p ∈ l', ∃ q ∈ l, q.1 = p.1 ∧ ∀ d', p.2 = some d' → ∃ d, q.2 = some d ∧ Fz0 a u d d' := by
  induction z with
  | nil => intro p hp; cases hp
  | cons _ ih =>
    intro p hp
    rcases List.mem_cons.mp hp with rfl | hp
    · exact ⟨_, .head _, rfl, fun d' e => ⟨d', e, .same⟩⟩
    · obtain ⟨q, hq, r⟩ := ih p hp
      exact ⟨q, .tail _ hq, r⟩
  | turn z _ ih =>
    intro p hp
    rcases List.mem_cons.mp hp with rfl | hp
    · exact ⟨_, .head _, rfl, fun d' e => by cases e; exact ⟨_, rfl, z⟩⟩
    · obtain ⟨q, hq, r⟩ := ih p hp
      exact ⟨q, .tail _ hq, r⟩
theorem Cz.addrs {l l' : List (Str × Addr × Option D)} (z : Cz a u l l') : l'.map (·.2.1) = l.map (·.2.1) := by
  induction z with
  | nil => rfl
  | cons _ ih => simp only [List.map_cons, ih]
  | turn _ _ ih => simp only [List.map_cons, ih]
theorem Cz.mem {l l' : List (Str × Addr × Option D)} (z : Cz a u l l') : ∀ p ∈ l', ∃ q ∈ l, q.1 = p.1 ∧ q.2.1 = p.2.1 ∧ ∀ d', p.2.2 = some d' → ∃ d, q.2.2 = some d ∧ Fz0 a u d d' := by
  induction z with
  | nil => intro p hp; cases hp
  | cons _ ih =>
    intro p hp
    rcases List.mem_cons.mp hp with rfl | hp
    · exact ⟨_, .head _, rfl, rfl, fun d' e => ⟨d', e, .same⟩⟩
    · obtain ⟨q, hq, r⟩ := ih p hp
      exact ⟨q, .tail _ hq, r⟩
  | turn z _ ih =>
    intro p hp
    rcases List.mem_cons.mp hp with rfl | hp
    · exact ⟨_, .head _, rfl, rfl, fun d' e => by cases e; exact ⟨_, rfl, z⟩⟩
    · obtain ⟨q, hq, r⟩ := ih p hp
      exact ⟨q, .tail _ hq, r⟩
end

section
variable {g : Gl} {c : Ctx} {st : St} {Q : D → St → Prop}
theorem Ok.rm {X : Addr → Prop} {s : Shared} {l l' cl cl' mu mu'} {a : Addr} {u : Mu} (k : Ok g c X ⟨l, cl, mu⟩ s) (r : Rm a u mu mu') (hx : ¬ c.Xc a) (lz : Lz a u l l') (cz : Cz a u cl cl') :
    Ok g c (fun b => X b ∧ b ≠ a) ⟨l', cl', mu'⟩ s ∧ Mv X s.heap (fun b => X b ∧ b ≠ a) s.heap ∧ ∀ d d' v, Fz a u d d' → At X s.heap d v → At (fun b => X b ∧ b ≠ a) s.heap d' v := by
  have M : Mv X s.heap (fun b => X b ∧ b ≠ a) s.heap := fun b o n e => ⟨fun h => n h.1, e⟩
  have pm := r.perm
  have hu₀ : MAt X s.heap a u := k.mu (a, u) (pm.mem_iff.mpr (.head _))
  have hu := hu₀.mv M fun _ e => e
  have nx : ¬ (X a ∧ a ≠ a) := fun h => h.2 rfl
  have nd := k.nodup
  unfold own at nd
  rw [List.nodup_cons, List.nodup_append] at nd
  have pm' : (mu.map (·.1)).Perm (a :: mu'.map (·.1)) := pm.map (·.1)
  have ndm := pm'.nodup_iff.mp nd.2.2.1
  rw [List.nodup_cons] at ndm
  have amem : a ∈ mu.map (·.1) := pm'.mem_iff.mpr (.head _)
  have sub : ∀ x ∈ own c ⟨l', cl', mu'⟩, x ∈ own c ⟨l, cl, mu⟩ ∧ x ≠ a := by
    intro x hx
    unfold own at hx ⊢
    rcases List.mem_cons.mp hx with rfl | hx
    · exact ⟨.head _, fun e => nd.1 (List.mem_append_right _ (e ▸ amem))⟩
    · rcases List.mem_append.mp hx with hx | hx
      · rw [cz.addrs] at hx
        exact ⟨.tail _ (List.mem_append_left _ hx), fun e => nd.2.2.2 _ hx _ amem e⟩
      · exact ⟨.tail _ (List.mem_append_right _ (pm'.mem_iff.mpr (.tail _ hx))), fun e => ndm.1 (e ▸ hx)⟩
  refine ⟨⟨k.cok, ⟨fun b o e => ⟨fun h => (k.base.keep b o e).1 h.1, (k.base.keep b o e).2⟩, k.base.gens, k.base.os, fun b h => k.base.live b h.1⟩, k.kept, fun b h => ⟨k.xc b h, fun e => hx (e ▸ h)⟩, ?_, fun x hx => ?_, by show (l'.map (·.1)).Nodup; rw [lz.names]; exact k.names, ?_, ?_, ?_⟩, M, fun d d' v z av => z.at_ nx hu (av.mv M)⟩
  · show (c.env.locals :: (cl'.map (·.2.1) ++ mu'.map (·.1))).Nodup
    rw [List.nodup_cons, List.nodup_append, cz.addrs]
    refine ⟨fun hx => ?_, nd.2.1, ndm.2, fun x hx y hy => nd.2.2.2 x hx y (pm'.mem_iff.mpr (.tail _ hy))⟩
    rcases List.mem_append.mp hx with hx | hx
    · exact nd.1 (List.mem_append_left _ hx)
    · exact nd.1 (List.mem_append_right _ (pm'.mem_iff.mpr (.tail _ hx)))
  · obtain ⟨h1, h2⟩ := sub x hx
    exact ⟨⟨(k.mine x h1).1, h2⟩, (k.mine x h1).2⟩
  · obtain ⟨m, hm, r⟩ := k.loc
    refine ⟨m, hm, fun p hp => ?_⟩
    obtain ⟨q, hq, e, z⟩ := lz.mem p hp
    refine ⟨e ▸ (r q hq).1, e ▸ (r q hq).2.1, fun d' e' => ?_⟩
    obtain ⟨d, ed, z⟩ := z d' e'
    obtain ⟨v, hv, av⟩ := (r q hq).2.2 d ed
    exact ⟨v, e ▸ hv, z.at_ nx hu (av.mv M)⟩
  · intro p hp
    obtain ⟨q, hq, e1, e2, z⟩ := cz.mem p hp
    obtain ⟨x, y, w, o, v, ho, hd, f⟩ := k.cel q hq
    refine ⟨e1 ▸ x, e1 ▸ y, by rw [← e1, ← e2]; exact w, o, v, e2 ▸ ho, hd, fun d' e' => ?_⟩
    obtain ⟨d, ed, z⟩ := z d' e'
    obtain ⟨v', hv, av⟩ := f d ed
    exact ⟨v', hv, z.at_ nx hu (av.mv M)⟩
  · intro p hp
    exact (k.mu p (pm.mem_iff.mpr (.tail _ hp))).mv M fun _ e => e

theorem Lz.refl {a : Addr} {u : Mu} : ∀ {l : List (Str × Option D)}, Lz a u l l
  | [] => .nil
  | _ :: _ => .cons Lz.refl
theorem Cz.refl {a : Addr} {u : Mu} : ∀ {l : List (Str × Addr × Option D)}, Cz a u l l
  | [] => .nil
  | _ :: _ => .cons Cz.refl
inductive KFrz (c : Ctx) (Q : D → St → Prop) (d : D) (st' : St) : Prop
  | mk (a : Addr) (u : Mu) (mu' : List (Addr × Mu)) (d' : D) (r : Rm a u st'.mu mu') (hx : ¬ c.Xc a) (z : Fz a u d d') (q : Q d' ⟨st'.loc, st'.cel, mu'⟩)
/-- an expression's value is frozen -/
theorem tw_frz {t : Sem Value} (h : TW g c t st (KFrz c Q)) : TW g c t st Q := fun X s k =>
  wpAny_mono (h X s k) (fun v s' h' => by
    obtain ⟨d, ⟨l, cl, mu⟩, X', k', m', a', a, u, mu', d', r, hx, z, q⟩ := h'
    obtain ⟨k₂, m₂, f⟩ := k'.rm r hx .refl .refl
    exact ⟨d', _, _, k₂, m'.trans m₂, f d d' v z a', q⟩) fun _ _ z => z
/-- a local list or object is frozen -/
theorem xw_frz {xs : List Stmt} {l l' cl cl' mu mu'} {a : Addr} {u : Mu} {Q : Fl → St → Prop} (r : Rm a u mu mu') (hx : ¬ c.Xc a) (lz : Lz a u l l') (cz : Cz a u cl cl') (h : XW g c xs ⟨l', cl', mu'⟩ Q) : XW g c xs ⟨l, cl, mu⟩ Q := fun X s k => by
  obtain ⟨k₂, m₂, _⟩ := k.rm r hx lz cz
  exact wpAny_mono (h _ s k₂) (fun _ _ z => PostF.up m₂ z) fun _ _ z => z

/-! objects of a class -/
noncomputable def clsOk (K : Frag) (C fI : Addr) : Bool := makesIn K C && findIn K (.ref C) "__init__" == some (some (.ref fI)) && isFn K (.ref fI)
theorem Room.make {n : Nat} {A : Around} (r : Room (n + 1) A) (C : Addr) (rest : List Value) : Room n (A.under (.builtin "type.__call__" ⟨.ref C :: rest, []⟩)) := by
  have w : (Code.builtin "type.__call__" ⟨.ref C :: rest, []⟩).weight = 1 := by kernel_rfl
  have u : (Code.builtin "type.__call__" ⟨.ref C :: rest, []⟩).cUnits = 1 := by kernel_rfl
  refine ⟨r.handled, ?_, ?_⟩
  · show A.depth + (Code.builtin "type.__call__" ⟨.ref C :: rest, []⟩).weight + n ≤ 990
    rw [w]; have := r.depth; (first | lia | omega)
  · show A.units + (Code.builtin "type.__call__" ⟨.ref C :: rest, []⟩).cUnits + 8 * n ≤ 9800
    rw [u]; have := r.units; (first | lia | omega)
theorem callW_make {n : Nat} {C fI : Addr} {ds : List D} {mu : List (Addr × Mu)} {Q : D → List (Addr × Mu) → Prop} (hc : clsOk g.K C fI = true)
    (h : ∀ x dx, dx ∉ mu.map (·.1) → CallW g n (.ref fI) (.minst C x dx :: ds) ((dx, .dict [] []) :: mu) fun d mu' => d = .none ∧ (Q (.minst C x dx) mu' ∨ ∃ ns ds' mu₁, Rm dx (.dict ns ds') mu' mu₁ ∧ Q (.inst C ns ds') mu₁)) : CallW g (n + 1) (.ref C) ds mu Q := fun A X s vs rm bk a => by
  obtain ⟨⟨h1, h2⟩, h3⟩ : (_ ∧ _) ∧ _ := by simpa only [clsOk, Bool.and_eq_true] using hc
  have kx := bk.base.kx
  obtain ⟨hh, gens, drawn, toks, os⟩ := s
  refine make_core (makes_of kx h1) (looks_findIn kx (beq_iff_eq.mp h2)) (fun self => bind_fn kx self (beq_iff_eq.mp h3)) (.inl rfl) ?_
  have k : ∀ b o, hh.get? b = some o → ((hh.push emptyDict).push (instObj C hh.objs.size)).get? b = some o := fun b o e => Heap.get?_push_of_some _ (Heap.get?_push_of_some _ e)
  have hx : ((hh.push emptyDict).push (instObj C hh.objs.size)).get? (hh.objs.size + 1) = some (instObj C hh.objs.size) := by heap_get
  have hdx : ((hh.push emptyDict).push (instObj C hh.objs.size)).get? hh.objs.size = some emptyDict := Heap.get?_push_of_some _ (Heap.get?_push_size _ rfl)
  have nolive : ∀ x, hh.objs.size ≤ x → hh.get? x = Option.none := fun x hx => by
    cases q : hh.get? x with
    | none => rfl
    | some o => exact absurd (Heap.lt_size q) (Nat.not_lt.mpr hx)
  have notX : ∀ x, hh.objs.size ≤ x → ¬ X x := fun x hx h => by
    obtain ⟨o, e⟩ := bk.base.live x h
    rw [nolive x hx] at e; cases e
  let X₁ : Addr → Prop := fun b => X b ∨ b = hh.objs.size
  have M : Mv X hh X₁ ((hh.push emptyDict).push (instObj C hh.objs.size)) := fun b o n e => ⟨fun q => q.elim n fun q => absurd e (by rw [q, nolive _ (Nat.le_refl _)]; intro z; cases z), k b o e⟩
  have hnx : ¬ X₁ (hh.objs.size + 1) := fun q => q.elim (notX _ (Nat.le_succ _)) fun q => absurd q (Nat.succ_ne_self _)
  have hdmu : hh.objs.size ∉ mu.map (·.1) := fun q => by
    obtain ⟨p, hp, e⟩ := List.mem_map.mp q
    exact notX _ (Nat.le_refl _) (e ▸ (bk.mine p hp).1)
  have bk₁ : Bk g X₁ ((hh.objs.size, .dict [] []) :: mu) ⟨(hh.push emptyDict).push (instObj C hh.objs.size), gens, drawn, toks, os⟩ := by
    refine ⟨⟨fun b o e => M b o (bk.base.keep b o e).1 (bk.base.keep b o e).2, bk.base.gens, bk.base.os, fun b q => ?_⟩, ?_, fun p hp => ?_⟩
    · rcases q with q | rfl
      · obtain ⟨o, e⟩ := bk.base.live b q
        exact ⟨o, k b o e⟩
      · exact ⟨_, hdx⟩
    · rw [List.map_cons, List.nodup_cons]
      exact ⟨hdmu, bk.nodup⟩
    · rcases List.mem_cons.mp hp with rfl | hp
      · exact ⟨.inr rfl, fun _ => none, Heap.Ns1.of_empty ⟨_, #[], _, hdx, rfl, fun e he => absurd he (by simp), fun _ => rfl⟩, rfl, fun _ _ => rfl, List.nodup_nil⟩
      · exact ⟨.inl (bk.mine p hp).1, (bk.mine p hp).2.mv M fun o e => k _ _ e⟩
  refine codeAny_mono (h (hh.objs.size + 1) hh.objs.size hdmu _ X₁ _ (.ref (hh.objs.size + 1) :: vs) (rm.make C vs) bk₁ ⟨_, vs, rfl, ⟨rfl, hnx, hx⟩, a.mv M⟩) fun r s' h' => ?_
  obtain ⟨v, rfl, d, mu', X', z⟩ := h'
  obtain ⟨rfl, q⟩ := z.q
  refine ⟨z.at_, ?_⟩
  have fr : ∀ p ∈ mu', p.1 ∈ mu.map (·.1) ∨ hh.get? p.1 = Option.none := fun p hp => by
    rcases z.fresh p hp with q | q
    · rcases List.mem_cons.mp q with q | q
      · exact .inr (by rw [q]; exact nolive _ (Nat.le_refl _))
      · exact .inl q
    · refine .inr ?_
      cases e : hh.get? p.1 with
      | none => rfl
      | some o => rw [k _ _ e] at q; cases q
  have kp : ∀ b o, hh.get? b = some o → b ∉ mu.map (·.1) → s'.heap.get? b = some o := fun b o e hb => z.kept b o (k b o e) fun q => by
    rcases List.mem_cons.mp q with q | q
    · rw [q, nolive _ (Nat.le_refl _)] at e; cases e
    · exact hb q
  have ax : At X' s'.heap (.minst C (hh.objs.size + 1) hh.objs.size) (.ref (hh.objs.size + 1)) := ⟨rfl, z.mv _ _ hnx hx⟩
  rcases q with q | ⟨ns, ds', mu₁, rm₁, q⟩
  · exact ⟨_, rfl, _, mu', X', z.bk, M.trans z.mv, fun b hb => z.up b (.inl hb), kp, fr, ax, q⟩
  · have pm := rm₁.perm
    have M₂ : Mv X' s'.heap (fun b => X' b ∧ b ≠ hh.objs.size) s'.heap := fun b o n e => ⟨fun h => n h.1, e⟩
    have ndm := (pm.map (·.1)).nodup_iff.mp z.bk.nodup
    rw [List.map_cons, List.nodup_cons] at ndm
    have hu := ((z.bk.mine _ (pm.mem_iff.mpr (.head _))).2).mv M₂ fun _ e => e
    have ne : ∀ p ∈ mu₁, p.1 ≠ hh.objs.size := fun p hp e => by
      have q := List.mem_map_of_mem (f := fun x : Addr × Mu => x.1) hp
      rw [e] at q
      exact ndm.1 q
    refine ⟨_, rfl, .inst C ns ds', mu₁, fun b => X' b ∧ b ≠ hh.objs.size, ⟨⟨fun b o e => ⟨fun h => (z.bk.base.keep b o e).1 h.1, (z.bk.base.keep b o e).2⟩, z.bk.base.gens, z.bk.base.os, fun b h => z.bk.base.live b h.1⟩, ndm.2, fun p hp => ?_⟩, (M.trans z.mv).trans M₂, fun b hb => ⟨z.up b (.inl hb), fun e => notX _ (Nat.le_refl _) (e ▸ hb)⟩, kp, fun p hp => fr p (pm.mem_iff.mpr (.tail _ hp)), ?_, q⟩
    · have := z.bk.mine p (pm.mem_iff.mpr (.tail _ hp))
      exact ⟨⟨this.1, ne p hp⟩, this.2.mv M₂ fun _ e => e⟩
    · exact (Fz0.inst rfl).at_ (fun h => h.2 rfl) hu (ax.mv M₂)

end
end Mine
open PySem PySem.W PySem.Calls PyProof.Rows
set_option maxRecDepth 100000
set_option Elab.async false
set_option maxHeartbeats 4000000
set_option linter.unusedVariables false
set_option linter.unusedSimpArgs false
namespace Mine

section
variable {g : Gl} {c : Ctx} {st : St} {Q : D → St → Prop}

/-! iterators -/
inductive PostI (g : Gl) (c : Ctx) (X : Addr → Prop) (s : Shared) (Q : Addr → St → Prop) (it : Value) (s' : Shared) : Prop
  | mk (a : Addr) (st' : St) (X' : Addr → Prop) (e : it = .ref a) (k : Ok g c X' st' s') (m : Mv X s.heap X' s'.heap) (q : Q a st')
noncomputable def IterW (g : Gl) (c : Ctx) (d : D) (st : St) (Q : Addr → St → Prop) : Prop :=
  ∀ X s v, Ok g c X st s → At X s.heap d v → wpAny g.M c.A (pyIter v) (PostI g c X s Q) noE s
variable {l : List (Str × Option D)} {cl : List (Str × Addr × Option D)} {mu mu' : List (Addr × Mu)} {a b : Addr} {ds : List D} {d : D} {i : Nat}
theorem iw_list {Q : Addr → St → Prop} (q : ∀ a, ¬ c.Xc a → Q a ⟨l, cl, (a, .itL 0 ds) :: mu⟩) : IterW g c (.lst ds) ⟨l, cl, mu⟩ Q := fun X s v k av => by
  obtain ⟨x, vs, rfl, nx, ⟨n, hl⟩, ha⟩ := av
  have hp : s.heap.PlainList x vs.toArray := ⟨n, hl⟩
  obtain ⟨k', M⟩ := k.alloc (o := { cls := .type "list_iterator", data := .fields #[.ref x, .int 0 0] }) (u := .itL 0 ds) rfl fun X' M => ⟨x, vs, ⟨_, Heap.get?_push_size _ rfl, rfl, rfl⟩, (M x _ nx hl).1, ⟨n, (M x _ nx hl).2⟩, by simpa using ha.mv M⟩
  exact wpAny_pyIter_list hp.isList ⟨_, _, _, rfl, k', M, q _ k.fresh_xc⟩
theorem iw_tup {Q : Addr → St → Prop} (q : ∀ a, ¬ c.Xc a → Q a ⟨l, cl, (a, .itT ds) :: mu⟩) : IterW g c (.tup ds) ⟨l, cl, mu⟩ Q := fun X s v k av => by
  obtain ⟨x, vs, rfl, nx, ⟨o, hl, r⟩, ha⟩ := av
  obtain ⟨k', M⟩ := k.alloc (o := { cls := .type "tuple_iterator", data := .fields #[.ref x, .int 0 0] }) (u := .itT ds) rfl fun X' M => ⟨x, vs, 0, ⟨_, Heap.get?_push_size _ rfl, rfl, rfl⟩, (M x _ nx hl).1, ⟨o, (M x _ nx hl).2, r⟩, by simpa using ha.mv M⟩
  exact wpAny_pyIter_tuple (show s.heap.IsTuple x vs.toArray from ⟨o, hl, r⟩) ⟨_, _, _, rfl, k', M, q _ k.fresh_xc⟩
theorem iw_rng {Q : Addr → St → Prop} {x y z : Int} (hs : Builtin.Range.small x y z = true) (q : ∀ a, ¬ c.Xc a → Q a ⟨l, cl, (a, .itR x (Builtin.Range.rangeSize x y z) z) :: mu⟩) : IterW g c (.rng x y z) ⟨l, cl, mu⟩ Q := fun X s v k av => by
  obtain ⟨r, t, u, w, rfl, nx, hr⟩ := av
  obtain ⟨k', M⟩ := k.alloc (o := { cls := .type "range_iterator", data := .fields #[rawInt x, rawInt (Builtin.Range.rangeSize x y z), rawInt z] }) (u := .itR x (Builtin.Range.rangeSize x y z) z) rfl fun X' M => Heap.get?_push_size _ rfl
  exact wpAny_pyIter_range hr hs ⟨_, _, _, rfl, k', M, q _ k.fresh_xc⟩
theorem iw_self {Q : Addr → St → Prop} {u : Mu} (hm : MLk a u st.mu) (hu : (match u with | .itL .. => true | .itT .. => true | .itR .. => true | .enum .. => true | _ => false) = true) (q : Q a st) : IterW g c (.mlst a) st Q := fun X s v k av => by
  obtain rfl : v = .ref a := av
  have z := k.mu _ hm.mem
  have fin : PostI g c X s Q (.ref a) s := ⟨a, st, X, rfl, k, .refl _ _, q⟩
  cases u with
  | itL i ds => obtain ⟨l, vs, t, _⟩ := z; exact wpAny_pyIter_listiter t fin
  | itT ds => obtain ⟨l, vs, i, t, _⟩ := z; exact wpAny_pyIter_tupleiter t fin
  | itR x y w => exact wpAny_pyIter_rangeiter z fin
  | enum b i => obtain ⟨old, z⟩ := z; exact wpAny_pyIter_enum z fin
  | lst _ => cases hu
  | dict _ _ => cases hu
  | frame => cases hu

/-- a spent iterator is dropped -/
theorem Ok.gone {X : Addr → Prop} {s : Shared} {h' : Heap} {tk : Nat} {u : Mu} (k : Ok g c X ⟨l, cl, mu⟩ s) (r : Rm a u mu mu') (hx : ¬ c.Xc a) (hs : ∀ b o, b ≠ a → s.heap.get? b = some o → h'.get? b = some o) :
    Ok g c (fun b => X b ∧ b ≠ a) ⟨l, cl, mu'⟩ { s with heap := h', toks := tk } ∧ Mv X s.heap (fun b => X b ∧ b ≠ a) h' := by
  have pm := r.perm
  have nd := k.nodup
  unfold own at nd
  rw [List.nodup_cons, List.nodup_append] at nd
  have pm' : (mu.map (·.1)).Perm (a :: mu'.map (·.1)) := pm.map (·.1)
  have amem : a ∈ mu.map (·.1) := pm'.mem_iff.mpr (.head _)
  have aown : a ∈ own c ⟨l, cl, mu⟩ := by unfold own; exact .tail _ (List.mem_append_right _ amem)
  have aX := (k.mine a aown).1
  have M : Mv X s.heap (fun b => X b ∧ b ≠ a) h' := fun b o n e => ⟨fun h => n h.1, hs b o (fun q => n (q ▸ aX)) e⟩
  have ndm := pm'.nodup_iff.mp nd.2.2.1
  rw [List.nodup_cons] at ndm
  have sub : ∀ x ∈ own c ⟨l, cl, mu'⟩, x ∈ own c ⟨l, cl, mu⟩ ∧ x ≠ a := by
    intro x hx
    unfold own at hx ⊢
    rcases List.mem_cons.mp hx with rfl | hx
    · exact ⟨.head _, fun e => nd.1 (List.mem_append_right _ (e ▸ amem))⟩
    · rcases List.mem_append.mp hx with hx | hx
      · exact ⟨.tail _ (List.mem_append_left _ hx), fun e => nd.2.2.2 _ hx _ amem e⟩
      · exact ⟨.tail _ (List.mem_append_right _ (pm'.mem_iff.mpr (.tail _ hx))), fun e => ndm.1 (e ▸ hx)⟩
  refine ⟨⟨k.cok, ⟨fun b o e => ?_, k.base.gens, k.base.os, fun b h => ?_⟩, fun b o e n => ?_, fun b h => ⟨k.xc b h, fun e => hx (e ▸ h)⟩, ?_, fun x hx => ?_, k.names, ?_, ?_, ?_⟩, M⟩
  · obtain ⟨p, q⟩ := k.base.keep b o e
    exact M b o p q
  · obtain ⟨o, e⟩ := k.base.live b h.1
    exact ⟨o, hs b o h.2 e⟩
  · refine hs b o (fun q => ?_) (k.kept b o e n)
    rcases (k.mine a aown).2 with z | z
    · exact n (q ▸ z)
    · rw [q, z] at e; cases e
  · show (c.env.locals :: (cl.map (·.2.1) ++ mu'.map (·.1))).Nodup
    rw [List.nodup_cons, List.nodup_append]
    refine ⟨fun hx => ?_, nd.2.1, ndm.2, fun x hx y hy => nd.2.2.2 x hx y (pm'.mem_iff.mpr (.tail _ hy))⟩
    rcases List.mem_append.mp hx with hx | hx
    · exact nd.1 (List.mem_append_left _ hx)
    · exact nd.1 (List.mem_append_right _ (pm'.mem_iff.mpr (.tail _ hx)))
  · obtain ⟨h1, h2⟩ := sub x hx
    exact ⟨⟨(k.mine x h1).1, h2⟩, (k.mine x h1).2⟩
  · obtain ⟨m, hm, r⟩ := k.loc
    refine ⟨m, hm.at' fun o e => hs _ _ (sub c.env.locals (by unfold own; exact .head _)).2 e, fun p hp => ⟨(r p hp).1, (r p hp).2.1, fun d e => ?_⟩⟩
    obtain ⟨v, hv, av⟩ := (r p hp).2.2 d e
    exact ⟨v, hv, av.mv M⟩
  · intro p hp
    obtain ⟨x, y, w, o, v, ho, hd, f⟩ := k.cel p hp
    refine ⟨x, y, w, o, v, hs _ _ (sub p.2.1 (by unfold own; exact .tail _ (List.mem_append_left _ (List.mem_map_of_mem (f := fun x : Str × Addr × Option D => x.2.1) hp)))).2 ho, hd, fun d e => ?_⟩
    obtain ⟨v', hv, av⟩ := f d e
    exact ⟨v', hv, av.mv M⟩
  · intro p hp
    exact (k.mu p (pm.mem_iff.mpr (.tail _ hp))).mv M fun o e => hs _ _ (sub p.1 (by unfold own; exact .tail _ (List.mem_append_right _ (List.mem_map_of_mem (f := fun x : Addr × Mu => x.1) hp)))).2 e

/-- the next item, or none -/
noncomputable def Nx (g : Gl) (c : Ctx) (target : Expr) (a : Addr) (st : St) (Qi : D → St → Prop) (Qd : St → Prop) : Prop :=
  ∀ X s, Ok g c X st s → wpAny g.M c.A (pyNext (.ref a)) (fun r s₁ => match r with
    | none => PostU g c X s Qd () s₁
    | some v => wpAny g.M c.A (letOwnedTupleGo target (.ref a) v) (fun _ s₂ => Post g c X s Qi v s₂) noE s₁) noE s
noncomputable def nameTarget : Expr → Bool
  | .Name .. => true
  | _ => false
theorem letGo_name {target : Expr} {it v : Value} (h : nameTarget target = true) : letOwnedTupleGo target it v = pure () := by cases target <;> first | rfl | cases h
variable {target : Expr} {Qi : D → St → Prop} {Qd : St → Prop}
theorem nx_list (ht : nameTarget target = true) (hm : MLk a (.itL i (d :: ds)) mu) (up : MUp a (.itL (i + 1) ds) mu mu') (q : Qi d ⟨l, cl, mu'⟩) : Nx g c target a ⟨l, cl, mu⟩ Qi Qd := fun X s k => by
  obtain ⟨x, vs, t, nx, hl, ha⟩ := k.mu _ hm.mem
  obtain ⟨v, r, e, av, ar⟩ := ha
  have hv : vs[i]? = some v := by have := congrArg (·[0]?) e; simpa [List.getElem?_drop] using this
  have hr : vs.drop (i + 1) = r := by rw [← List.drop_drop, e]; rfl
  refine wpAny_pyNext_list_item t hl.isList (x := v) (by simpa using hv) fun h' t' hsb => ?_
  obtain ⟨k', M⟩ := k.upd (h' := h') (tk := s.toks) up (fun b o n e => hsb.extBut b o n e) fun M => ⟨x, vs, t', nx, ⟨_, (M x _ nx hl.choose_spec).2⟩, by rw [hr]; exact ar.mv M⟩
  dsimp only
  rw [letGo_name ht]
  exact wpAny_pure ⟨d, _, X, k', M, av.mv M, q⟩
theorem nx_list_end (hm : Rm a (.itL i []) mu mu') (hx : ¬ c.Xc a) (q : Qd ⟨l, cl, mu'⟩) : Nx g c target a ⟨l, cl, mu⟩ Qi Qd := fun X s k => by
  obtain ⟨x, vs, t, nx, hl, ha⟩ := k.mu _ (hm.perm.mem_iff.mpr (.head _))
  have hv : vs[i]? = none := by
    have : vs.drop i = [] := ha
    rw [List.getElem?_eq_none_iff]
    exact List.drop_eq_nil_iff.mp this
  refine wpAny_pyNext_list_end k.cok.room.handled t hl.isList (by simpa using hv) fun h' he => ?_
  obtain ⟨k', M⟩ := k.gone (h' := h') (tk := s.toks) hm hx he
  exact ⟨_, _, k', M, q⟩
theorem nx_tup (ht : nameTarget target = true) (hm : MLk a (.itT (d :: ds)) mu) (up : MUp a (.itT ds) mu mu') (q : Qi d ⟨l, cl, mu'⟩) : Nx g c target a ⟨l, cl, mu⟩ Qi Qd := fun X s k => by
  obtain ⟨x, vs, i, t, nx, hl, ha⟩ := k.mu _ hm.mem
  obtain ⟨v, r, e, av, ar⟩ := ha
  have hv : vs[i]? = some v := by have := congrArg (·[0]?) e; simpa [List.getElem?_drop] using this
  have hr : vs.drop (i + 1) = r := by rw [← List.drop_drop, e]; rfl
  refine wpAny_pyNext_tuple_item t hl (x := v) (by simpa using hv) fun h' t' hsb => ?_
  obtain ⟨k', M⟩ := k.upd (h' := h') (tk := s.toks) up (fun b o n e => hsb.extBut b o n e) fun M => by
    obtain ⟨o, ho, r'⟩ := hl
    exact ⟨x, vs, i + 1, t', nx, ⟨o, (M x _ nx ho).2, r'⟩, by rw [hr]; exact ar.mv M⟩
  dsimp only
  rw [letGo_name ht]
  exact wpAny_pure ⟨d, _, X, k', M, av.mv M, q⟩
theorem nx_tup_end (hm : Rm a (.itT []) mu mu') (hx : ¬ c.Xc a) (q : Qd ⟨l, cl, mu'⟩) : Nx g c target a ⟨l, cl, mu⟩ Qi Qd := fun X s k => by
  obtain ⟨x, vs, i, t, nx, hl, ha⟩ := k.mu _ (hm.perm.mem_iff.mpr (.head _))
  have hv : vs[i]? = none := by
    have : vs.drop i = [] := ha
    rw [List.getElem?_eq_none_iff]
    exact List.drop_eq_nil_iff.mp this
  refine wpAny_pyNext_tuple_end k.cok.room.handled t hl (by simpa using hv) fun h' he => ?_
  obtain ⟨k', M⟩ := k.gone (h' := h') (tk := s.toks) hm hx he
  exact ⟨_, _, k', M, q⟩
theorem nx_rng {x left z : Int} (ht : nameTarget target = true) (hm : MLk a (.itR x left z) mu) (hl : 0 < left) (up : MUp a (.itR (x + z) (left - 1) z) mu mu') (q : Qi (.int x) ⟨l, cl, mu'⟩) : Nx g c target a ⟨l, cl, mu⟩ Qi Qd := fun X s k => by
  refine wpAny_pyNext_range_item (k.mu _ hm.mem) hl fun h' t' hsb => ?_
  obtain ⟨k', M⟩ := k.upd (h' := h') (tk := s.toks + 1) up (fun b o n e => hsb.extBut b o n e) fun M => t'
  dsimp only
  rw [letGo_name ht]
  exact wpAny_pure ⟨.int x, _, X, k', M, ⟨_, rfl⟩, q⟩
theorem nx_rng_end {x left z : Int} (hl : left ≤ 0) (hm : Rm a (.itR x left z) mu mu') (hx : ¬ c.Xc a) (q : Qd ⟨l, cl, mu'⟩) : Nx g c target a ⟨l, cl, mu⟩ Qi Qd := fun X s k => by
  refine wpAny_pyNext_range_end k.cok.room.handled (k.mu _ (hm.perm.mem_iff.mpr (.head _))) hl fun h' he => ?_
  obtain ⟨k', M⟩ := k.gone (h' := h') (tk := s.toks) hm hx he
  exact ⟨_, _, k', M, q⟩

/-! for -/
inductive PostR (g : Gl) (c : Ctx) (X : Addr → Prop) (s : Shared) (Q : Fl → St → Prop) (r : Result) (s' : Shared) : Prop
  | mk (f : Flow) (e : r = .ok f) (z : PostF g c X s Q f s')
noncomputable def FOR (g : Gl) (c : Ctx) (target : Expr) (body : List Stmt) (a : Addr) (st : St) (Q : Fl → St → Prop) : Prop :=
  ∀ X s, Ok g c X st s → codeAny g.M c.A (.forLoop target (.ref a) body [] c.env) (PostR g c X s Q) s
noncomputable def ForK (g : Gl) (c : Ctx) (target : Expr) (body : List Stmt) (a : Addr) (Q : Fl → St → Prop) : Fl → St → Prop
  | .next, st => FOR g c target body a st Q
  | .cont, st => FOR g c target body a st Q
  | .brk, st => Q .next st
  | .ret d, st => Q (.ret d) st
noncomputable abbrev KForB (g : Gl) (c : Ctx) (target : Expr) (body : List Stmt) (a : Addr) (Q : Fl → St → Prop) : D → St → Prop := fun d st₁ => ASW g c target d st₁ (KX g c body (ForK g c target body a Q))
noncomputable abbrev KIt2 (g : Gl) (c : Ctx) (target : Expr) (body : List Stmt) (Q : Fl → St → Prop) : Addr → St → Prop := fun a st₂ => FOR g c target body a st₂ Q
noncomputable abbrev KIt1 (g : Gl) (c : Ctx) (target : Expr) (body : List Stmt) (Q : Fl → St → Prop) : D → St → Prop := fun d st₁ => IterW g c d st₁ (KIt2 g c target body Q)
theorem for_step {body : List Stmt} {Q : Fl → St → Prop} (h : Nx g c target a st (KForB g c target body a Q) (Q .next)) : FOR g c target body a st Q := fun X s k => by
  refine codeAny_of_tree ?_
  show wpAny _ c.A ((forTurn target (.ref a) body [] c.env).onRaise (fun x => do noteFrame x c.env; theTreesLotGoes x)) _ _ s
  refine wpAny_noted ?_
  simp only [forTurn]
  refine wpAny_bind (wpAny_standAt (wpAny_bind (wpAny_onRaise (wpAny_mono (h X s k) (fun r s₁ h₁ => ?_) fun _ _ z => z.elim))))
  cases r with
  | none =>
    obtain ⟨st', X', k', m', q⟩ := h₁
    refine wpAny_pure ⟨rfl, codeAny_block (wpAny_execs_nil ⟨_, rfl, .next, st', X', k', m', rfl, q⟩)⟩
  | some v =>
    refine wpAny_bind (wpAny_mono h₁ (fun _ s₂ h₂ => ?_) fun _ _ z => z.elim)
    obtain ⟨d, st₁, X₁, k₁, m₁, a₁, h₂⟩ := h₂
    refine wpAny_bind (wpAny_mono (h₂ X₁ s₂ v k₁ a₁) (fun _ s₃ h₃ => ?_) fun _ _ z => z.elim)
    obtain ⟨st₂, X₂, k₂, m₂, h₃⟩ := h₃
    refine wpAny_bind (wpAny_mono (h₃ X₂ s₃ k₂) (fun f s₄ h₄ => ?_) fun _ _ z => z.elim)
    obtain ⟨r, st₃, X₃, k₃, m₃, fa, q⟩ := h₄
    have M := (m₁.trans m₂).trans m₃
    cases r with
    | next =>
      obtain rfl : f = .next := fa
      exact wpAny_pure ⟨rfl, codeAny_mono (q X₃ s₄ k₃) fun r s' ⟨f, e, z⟩ => ⟨f, e, PostF.up M z⟩⟩
    | cont =>
      obtain rfl : f = .cont := fa
      exact wpAny_pure ⟨rfl, codeAny_mono (q X₃ s₄ k₃) fun r s' ⟨f, e, z⟩ => ⟨f, e, PostF.up M z⟩⟩
    | brk =>
      obtain rfl : f = .brk := fa
      exact wpAny_pure ⟨_, rfl, .next, st₃, X₃, k₃, M, rfl, q⟩
    | ret d =>
      obtain ⟨v, rfl, av⟩ := fa
      exact wpAny_pure ⟨_, rfl, .ret d, st₃, X₃, k₃, M, ⟨v, rfl, av⟩, q⟩
noncomputable abbrev notSetE : Expr → Bool := notSet
theorem folded_none {e : Expr} {env : Env} (h : notSetE e = true) (x : Value) : foldedSetIterable e env x = pure x := by cases e <;> first | rfl | cases h
theorem xw_for {iter : Expr} {body : List Stmt} {pos : Pos} {Q : Fl → St → Prop} (hn : notSetE iter = true) (h : EW g c iter st (KIt1 g c target body Q)) : XW1 g c (.For target iter body [] pos) st Q := fun X s k => by
  refine wpAny_For (wpAny_mono (h X s k) (fun v s₁ h₁ => ?_) fun _ _ z => z) (folded_none hn)
  obtain ⟨d, st₁, X₁, k₁, m₁, a₁, h₁⟩ := h₁
  refine wpAny_mono (h₁ X₁ s₁ v k₁ a₁) (fun it s₂ h₂ => ?_) fun _ _ z => z
  obtain ⟨a, st₂, X₂, rfl, k₂, m₂, h₂⟩ := h₂
  refine codeAny_mono (h₂ X₂ s₂ k₂) fun r s' ⟨f, e, z⟩ => ?_
  subst e
  exact PostF.up (m₁.trans m₂) z
end
end Mine
open PySem PySem.W PySem.Calls PyProof.Rows
set_option maxRecDepth 100000
set_option Elab.async false
set_option maxHeartbeats 4000000
set_option linter.unusedVariables false
set_option linter.unusedSimpArgs false
namespace Mine

/-! comprehensions -/
inductive LkA (n : Str) (a : Addr) (d : D) : List (Str × Addr × Option D) → Prop
  | here {l} : LkA n a d ((n, a, some d) :: l)
  | there {p l} : LkA n a d l → LkA n a d (p :: l)
theorem LkA.mem {n : Str} {a : Addr} {d : D} {l : List (Str × Addr × Option D)} (h : LkA n a d l) : (n, a, some d) ∈ l := by
  induction h with
  | here => exact .head _
  | there _ ih => exact .tail _ ih
inductive ScK (oc : List (Str × Addr × Option D)) : List (Str × NameKind) → List (Str × Option D) → List (Str × Addr × Option D) → Prop
  | nil : ScK oc [] [] []
  | loc {n ns l cl} : ScK oc ns l cl → ScK oc ((n, .local) :: ns) ((n, Option.none) :: l) cl
  | free {n ns l cl ca d} : LkA n ca d oc → ScK oc ns l cl → ScK oc ((n, .free) :: ns) l ((n, ca, some d) :: cl)
  | glob {n ns l cl} : ScK oc ns l cl → ScK oc ((n, .globalImplicit) :: ns) l cl
section
variable {oc : List (Str × Addr × Option D)} {ns : List (Str × NameKind)} {l : List (Str × Option D)} {cl : List (Str × Addr × Option D)}
theorem ScK.loc_mem (e : ScK oc ns l cl) : ∀ p ∈ l, (p.1, NameKind.local) ∈ ns ∧ p.2 = Option.none := by
  induction e with
  | nil => intro p hp; cases hp
  | loc _ ih =>
    intro p hp
    rcases List.mem_cons.mp hp with rfl | hp
    · exact ⟨.head _, rfl⟩
    · exact ⟨.tail _ (ih p hp).1, (ih p hp).2⟩
  | free _ _ ih | glob _ ih => exact fun p hp => ⟨.tail _ (ih p hp).1, (ih p hp).2⟩
theorem ScK.cel_mem (e : ScK oc ns l cl) : ∀ p ∈ cl, (p.1, NameKind.free) ∈ ns ∧ p ∈ oc := by
  induction e with
  | nil => intro p hp; cases hp
  | free h _ ih =>
    intro p hp
    rcases List.mem_cons.mp hp with rfl | hp
    · exact ⟨.head _, h.mem⟩
    · exact ⟨.tail _ (ih p hp).1, (ih p hp).2⟩
  | loc _ ih | glob _ ih => exact fun p hp => ⟨.tail _ (ih p hp).1, (ih p hp).2⟩
theorem ScK.loc_names (e : ScK oc ns l cl) : (l.map (·.1)).Sublist (ns.map (·.1)) := by
  induction e with
  | nil => exact .slnil
  | loc _ ih => exact ih.cons_cons _
  | free _ _ ih | glob _ ih => exact ih.cons _
theorem ScK.cel_names (e : ScK oc ns l cl) : (cl.map (·.1)).Sublist (ns.map (·.1)) := by
  induction e with
  | nil => exact .slnil
  | free _ _ ih => exact ih.cons_cons _
  | loc _ ih | glob _ ih => exact ih.cons _
theorem ScK.nocell (e : ScK oc ns l cl) : ∀ x ∈ ns, x.2 ≠ NameKind.cell := by
  induction e with
  | nil => intro n hn; cases hn
  | free _ _ ih | loc _ ih | glob _ ih =>
    intro x hx
    rcases List.mem_cons.mp hx with rfl | hx
    · intro e; cases e
    · exact ih x hx
end
noncomputable def relN (p : Str × NameKind) : Str × NameKind := if p.2 == .free then (p.1, .cell) else p
noncomputable def relS (sc : Scope) : Scope := { sc with names := sc.names.map relN }
theorem relabel_eq {sc : Scope} {env : Env} (hk : env.scope.kind = .function) (h : ∀ x ∈ sc.names, x.2 = .free → env.kindOf x.1 = some .cell) : relabel sc env = relS sc := by
  unfold relabel relS
  congr 1
  refine List.map_congr_left fun x hx => ?_
  obtain ⟨n, k⟩ := x
  unfold relN
  by_cases hf : k = .free
  · subst hf
    have e : env.kindOf n = some .cell := h _ hx rfl
    show (if (NameKind.free == NameKind.free && env.scope.kind == .function && env.kindOf n == some .cell) = true then (n, NameKind.cell) else (n, NameKind.free)) = _
    rw [hk, e]; rfl
  · have : (k == NameKind.free) = false := by simpa using hf
    simp [this]
noncomputable def clo (env : Env) : List (Str × NameKind) → List (Str × Addr) → List (Str × Addr)
  | [], acc => acc
  | (n, k) :: r, acc => clo env r (if k == .free then (n, (env.cells.lookup n).getD 0) :: acc else acc)
theorem closureFor_eq {sc : Scope} {env : Env} (h : ∀ x ∈ sc.names, x.2 = .free → (env.cells.lookup x.1).isSome = true) : closureFor sc env = pure (clo env sc.names []) := by
  unfold closureFor
  have go : ∀ (ns : List (Str × NameKind)) (acc : List (Str × Addr)), (∀ x ∈ ns, x.2 = .free → (env.cells.lookup x.1).isSome = true) →
      (forIn ns acc fun x r => (match x with | (name, kind) => if (kind == NameKind.free) = true then do let y ← cellOf env name; pure (ForInStep.yield ((name, y) :: r)) else pure (ForInStep.yield r) : Sem (ForInStep (List (Str × Addr))))) = pure (clo env ns acc) := by
    intro ns
    induction ns with
    | nil => intro acc _; rfl
    | cons x r ih =>
      intro acc hx
      obtain ⟨n, k⟩ := x
      rw [List.forIn_cons]
      have hr := fun acc => ih acc fun y hy => hx y (.tail _ hy)
      by_cases hf : k = .free
      · subst hf
        obtain ⟨ca, hca⟩ := Option.isSome_iff_exists.mp (hx (n, .free) (.head _) rfl)
        have e : cellOf env n = pure ca := by unfold cellOf; rw [hca]
        simp only [beq_self_eq_true, if_true, e]
        show (forIn r ((n, ca) :: acc) _ : Sem _) = _
        rw [hr]
        show _ = pure (clo env r (if (NameKind.free == NameKind.free) = true then (n, (env.cells.lookup n).getD 0) :: acc else acc))
        rw [hca]; rfl
      · have q : (k == NameKind.free) = false := by simpa using hf
        simp only [q, Bool.false_eq_true, if_false]
        show (forIn r acc _ : Sem _) = _
        rw [hr]
        show _ = pure (clo env r (if (k == NameKind.free) = true then _ else acc))
        rw [q]; rfl
  exact (congrArg (fun t : Sem (List (Str × Addr)) => t >>= fun cs => pure cs) (go sc.names [] h)).trans rfl
theorem clo_mem {env : Env} : ∀ (ns : List (Str × NameKind)) (acc : List (Str × Addr)) (x : Str × Addr), x ∈ clo env ns acc → x ∈ acc ∨ ((x.1, NameKind.free) ∈ ns ∧ x.2 = (env.cells.lookup x.1).getD 0)
  | [], _, _, h => .inl h
  | (n, k) :: r, acc, x, h => by
    unfold clo at h
    rcases clo_mem r _ x h with h | ⟨h1, h2⟩
    · by_cases hf : (k == NameKind.free) = true
      · rw [if_pos hf] at h
        rcases List.mem_cons.mp h with rfl | h
        · exact .inr ⟨by rw [eq_of_beq hf]; exact .head _, rfl⟩
        · exact .inl h
      · rw [if_neg hf] at h
        exact .inl h
    · exact .inr ⟨.tail _ h1, h2⟩
theorem clo_has {env : Env} : ∀ (ns : List (Str × NameKind)) (acc : List (Str × Addr)) (n : Str), ((n, NameKind.free) ∈ ns ∨ ((acc.lookup n).isSome = true)) → ((clo env ns acc).lookup n).isSome = true
  | [], _, _, h => h.elim (fun h => by cases h) id
  | (m, k) :: r, acc, n, h => by
    unfold clo
    refine clo_has r _ n ?_
    have up : (acc.lookup n).isSome = true → ((if (k == NameKind.free) = true then (m, (env.cells.lookup m).getD 0) :: acc else acc).lookup n).isSome = true := fun h => by
      split
      · rw [List.lookup_cons]
        split
        · rfl
        · exact h
      · exact h
    rcases h with h | h
    · rcases List.mem_cons.mp h with e | h
      · cases e
        refine .inr ?_
        simp [List.lookup_cons]
      · exact .inl h
    · exact .inr (up h)
theorem clo_lookup {env : Env} {ns : List (Str × NameKind)} {n : Str} (h : (n, NameKind.free) ∈ ns) : (clo env ns []).lookup n = some ((env.cells.lookup n).getD 0) := by
  obtain ⟨a, e⟩ := Option.isSome_iff_exists.mp (clo_has (env := env) ns [] n (.inl h))
  rcases clo_mem ns [] _ (lookup_nodup e) with q | ⟨_, q⟩
  · cases q
  · rw [e, ← q]
end Mine
open PySem PySem.W PySem.Calls PyProof.Rows
set_option maxRecDepth 100000
set_option Elab.async false
set_option maxHeartbeats 4000000
set_option linter.unusedVariables false
set_option linter.unusedSimpArgs false
namespace Mine

section
variable {g : Gl} {c : Ctx} {st : St} {Q : D → St → Prop}

inductive PostC (g : Gl) (c : Ctx) (X : Addr → Prop) (s : Shared) (Q : St → Prop) (r : Result) (s' : Shared) : Prop
  | mk (f : Flow) (e : r = .ok f) (st' : St) (X' : Addr → Prop) (k : Ok g c X' st' s') (m : Mv X s.heap X' s'.heap) (q : Q st')
noncomputable def COMP (g : Gl) (c : Ctx) (elt target iter : Expr) (ifs : List Expr) (scope : Scope) (pos : Pos) (a acc : Addr) (st : St) (Q : St → Prop) : Prop :=
  ∀ X s, Ok g c X st s → codeAny g.M c.A (.compLoop (.ListComp elt [⟨target, iter, ifs, 0⟩] scope pos) 0 (.ref a) (.ref acc) c.env) (PostC g c X s Q) s
noncomputable def TestW (g : Gl) (c : Ctx) : List Expr → St → (Bool → St → Prop) → Prop
  | [], st, Q => Q true st
  | [e], st, Q => BW g c e st Q
  | _, _, _ => False
variable {elt target iter : Expr} {ifs : List Expr} {scope : Scope} {pos : Pos} {a acc : Addr}
theorem comp_step {Q : St → Prop} (h : Nx g c target a st (fun d st₁ => ASW g c target d st₁ fun st₂ => TestW g c ifs st₂ fun b st₃ =>
      (b = true → EW g c elt st₃ fun d st₄ => CallQ g c (.builtin "list.append") [.mlst acc, d] st₄ fun _ st₅ => COMP g c elt target iter ifs scope pos a acc st₅ Q) ∧ (b = false → COMP g c elt target iter ifs scope pos a acc st₃ Q)) Q) : COMP g c elt target iter ifs scope pos a acc st Q := fun X s k => by
  refine codeAny_of_tree ?_
  show wpAny _ c.A ((compTurn (.ListComp elt [⟨target, iter, ifs, 0⟩] scope pos) 0 (.ref a) (.ref acc) c.env).onRaise (fun x => do noteFrame x c.env; theTreesLotGoes x)) _ _ s
  refine wpAny_noted ?_
  rw [compTurn_list]
  refine wpAny_bind (wpAny_standAt (wpAny_bind (wpAny_mono (h X s k) (fun r s₁ h₁ => ?_) fun _ _ z => z.elim)))
  cases r with
  | none =>
    obtain ⟨st', X', k', m', q⟩ := h₁
    exact wpAny_pure ⟨_, rfl, st', X', k', m', q⟩
  | some v =>
    refine wpAny_bind (wpAny_mono h₁ (fun _ s₂ h₂ => ?_) fun _ _ z => z.elim)
    obtain ⟨d, st₁, X₁, k₁, m₁, a₁, h₂⟩ := h₂
    refine wpAny_bind (wpAny_mono (h₂ X₁ s₂ v k₁ a₁) (fun _ s₃ h₃ => ?_) fun _ _ z => z.elim)
    obtain ⟨st₂, X₂, k₂, m₂, h₃⟩ := h₃
    have tst : wpAny g.M c.A (forIn ifs true fun e r => if r = true then do let ok ← isTrue e c.env (eval e c.env); pure (ForInStep.yield ok) else pure (ForInStep.yield r)) (PostB g c X₂ s₃ fun b st₃ =>
      (b = true → EW g c elt st₃ fun d st₄ => CallQ g c (.builtin "list.append") [.mlst acc, d] st₄ fun _ st₅ => COMP g c elt target iter ifs scope pos a acc st₅ Q) ∧ (b = false → COMP g c elt target iter ifs scope pos a acc st₃ Q)) noE s₃ := by
      match ifs, h₃ with
      | [], h₃ => exact wpAny_tests_nil ⟨st₂, X₂, k₂, .refl _ _, h₃⟩
      | [e], h₃ => exact wpAny_tests_one (h₃ X₂ s₃ k₂)
    refine wpAny_bind (wpAny_mono tst (fun ok s₄ h₄ => ?_) fun _ _ z => z.elim)
    obtain ⟨st₃, X₃, k₃, m₃, ht, hf⟩ := h₄
    have M₃ := (m₁.trans m₂).trans m₃
    cases ok with
    | false => exact wpAny_pure ⟨rfl, codeAny_mono (hf rfl X₃ s₄ k₃) fun r s' ⟨f, e, st', X', k', m', q⟩ => ⟨f, e, st', X', k', M₃.trans m', q⟩⟩
    | true =>
      refine wpAny_bind (wpAny_bind (wpAny_mono (ht rfl X₃ s₄ k₃) (fun x s₅ h₅ => ?_) fun _ _ z => z.elim))
      obtain ⟨d', st₄, X₄, k₄, m₄, a₄, h₅⟩ := h₅
      refine wpAny_bind (wpAny_mono (h₅ X₄ s₅ [.ref acc, x] k₄ ⟨_, _, rfl, rfl, _, _, rfl, a₄, rfl⟩) (fun y s₆ h₆ => ?_) fun _ _ z => z.elim)
      obtain ⟨_, st₅, X₅, k₅, m₅, _, h₆⟩ := h₆
      exact wpAny_pure (wpAny_pure ⟨rfl, codeAny_mono (h₆ X₅ s₆ k₅) fun r s' ⟨f, e, st', X', k', m', q⟩ => ⟨f, e, st', X', k', ((M₃.trans m₄).trans m₅).trans m', q⟩⟩)

noncomputable def compSc (sc : Scope) : Bool := sc.kind == .function && decide ((sc.names.map (·.1)).Nodup) && sc.names.all fun p => okName p.1
noncomputable def isIt : Mu → Bool
  | .itL .. => true
  | .itT .. => true
  | .itR .. => true
  | .enum .. => true
  | _ => false
theorem pyIter_self {X : Addr → Prop} {A : Around} {E : Value → Shared → Prop} {s : Shared} {a : Addr} {u : Mu} {Q : Value → Shared → Prop} (z : MAt X s.heap a u) (hu : isIt u = true) (q : Q (.ref a) s) : wpAny g.M A (pyIter (.ref a)) Q E s := by
  cases u with
  | itL i ds => obtain ⟨l, vs, t, _⟩ := z; exact wpAny_pyIter_listiter t q
  | itT ds => obtain ⟨l, vs, i, t, _⟩ := z; exact wpAny_pyIter_tupleiter t q
  | itR x y w => exact wpAny_pyIter_rangeiter z q
  | enum b i => obtain ⟨old, z⟩ := z; exact wpAny_pyIter_enum z q
  | lst _ => cases hu
  | dict _ _ => cases hu
  | frame => cases hu
theorem relN_fst (p : Str × NameKind) : (relN p).1 = p.1 := by unfold relN; split <;> rfl
theorem relS_names (ns : List (Str × NameKind)) : (ns.map relN).map (·.1) = ns.map (·.1) := by
  rw [List.map_map]; exact List.map_congr_left fun x _ => relN_fst x
noncomputable def freeIn (cl : List (Str × Addr × Option D)) (ns : List (Str × NameKind)) : Bool := ns.all fun p => p.2 != .free || cl.any fun q => q.1 == p.1
/-- a heap without one object -/
theorem masked (H : Heap) (a : Addr) : ∃ Hm : Heap, Hm.get? a = Option.none ∧ ∀ b, b ≠ a → Hm.get? b = H.get? b := by
  refine ⟨H.update a fun _ => { cls := .none, data := .freed }, ?_, fun b hb => Heap.get?_update_other _ _ (Ne.symm hb)⟩
  cases e : (H.update a fun _ => { cls := .none, data := .freed }).get? a with
  | none => rfl
  | some o =>
    obtain ⟨h1, h2⟩ := Heap.get?_some_iff.mp e
    have h3 : (H.objs.modify a fun _ => { cls := .none, data := .freed })[a]? = some o := h1
    rw [Array.getElem?_modify] at h3
    rw [if_pos rfl] at h3
    obtain ⟨o', _, rfl⟩ := Option.map_eq_some_iff.mp h3
    cases h2
theorem comp_core {l cl mu} {use : Option (Value → Sem Unit)} {R : Value → Shared → Prop} {P : Addr → St → Prop} (hn : notSetE iter = true) (hsc : compSc scope = true) (hfr : freeIn cl scope.names = true)
    (h : EW g c iter ⟨l, cl, mu⟩ fun d st₁ => IterW g c d st₁ fun a st₂ => ¬ c.Xc a ∧ ∃ u, MLk a u st₂.mu ∧ isIt u = true ∧ ∃ lc cc, ScK st₂.cel scope.names lc cc ∧
      ∀ acc, ¬ c.Xc acc → ∀ c', c'.env.scope = relS scope → c'.n = c.n → (∀ b, c.Xc b → c'.Xc b) → ¬ c'.Xc a → COMP g c' elt target iter ifs scope pos a acc ⟨lc, cc, (acc, .lst []) :: st₂.mu⟩ fun st₃ => st₃.cel = cc ∧ P acc ⟨st₂.loc, st₂.cel, st₃.mu⟩)
    {X : Addr → Prop} {s : Shared} (k : Ok g c X ⟨l, cl, mu⟩ s)
    (hfin : ∀ acc C f X' s' st₄, ¬ c.Xc C → P acc st₄ → Ok g c X' ⟨st₄.loc, st₄.cel, (C, .frame) :: st₄.mu⟩ s' → Mv X s.heap X' s'.heap → compPost g.M c.A noE use R (.ref acc) C (.ok f) s') :
    wpAny g.M c.A (comprehension (.ListComp elt [⟨target, iter, ifs, 0⟩] scope pos) scope c.env (firstIterPos [⟨target, iter, ifs, 0⟩] pos) (newList []) (firstAsync [⟨target, iter, ifs, 0⟩]) (firstIter [⟨target, iter, ifs, 0⟩] c.env) use) R noE s := by
  obtain ⟨⟨hs1, hs2⟩, hs3⟩ : (_ ∧ _) ∧ _ := by simpa only [compSc, Bool.and_eq_true] using hsc
  have hkind : scope.kind = .function := eq_of_beq hs1
  have hnd : (scope.names.map (·.1)).Nodup := of_decide_eq_true hs2
  have hfree : ∀ x ∈ scope.names, x.2 = .free → c.env.kindOf x.1 = some .cell ∧ (c.env.cells.lookup x.1).isSome = true := fun x hx e => by
    have := List.all_eq_true.mp hfr x hx
    rw [e] at this
    obtain ⟨q, hq, e'⟩ := List.any_eq_true.mp (show cl.any (fun q => q.1 == x.1) = true from by simpa using this)
    obtain ⟨h1, h2, h3, _⟩ := k.cel q hq
    rw [← eq_of_beq e']
    exact ⟨h1, by rw [h3]; rfl⟩
  refine wpAny_comprehension_free (use := use) rfl (folded_none hn) (closureFor_eq fun x hx e => (hfree x hx e).2) hkind (fun x hx e => by
    obtain ⟨n, kk⟩ := x
    cases e
    exact lookup_mem hnd hx) ?_
  refine wpAny_mono (h X s k) (fun x s₁ h₁ => ?_) fun _ _ z => z
  obtain ⟨d, st₁, X₁, k₁, m₁, a₁, h₁⟩ := h₁
  refine wpAny_mono (h₁ X₁ s₁ x k₁ a₁) (fun it s₂ h₂ => ?_) fun _ _ z => z
  obtain ⟨a, ⟨l₂, cl₂, mu₂⟩, X₂, rfl, k₂, m₂, hax, u, hu, hiu, lc, cc, sk, h₂⟩ := h₂
  have M₂ := m₁.trans m₂
  refine wpAny_newObj_type (wpAny_newFunctionEnv sk.nocell (by intro y hy; simp at hy) (fun h₄ hns hsb => ?_) hkind)
  dsimp only at hns hsb h₂ sk hu ⊢
  rw [relabel_eq k.cok.kind fun x hx e => (hfree x hx e).1]
  -- the new list
  obtain ⟨k₃, m₃⟩ := k₂.alloc (o := { cls := .type "list", data := .seq ([] : List Value).toArray }) (u := .lst []) rfl fun X' M => ⟨[], ⟨0, Heap.get?_push_size _ rfl⟩, rfl⟩
  have hacc := k₂.fresh_xc
  generalize hL : s₂.heap.objs.size = acc at k₃ m₃ hacc ⊢
  generalize hH : s₂.heap.push { cls := .type "list", data := .seq ([] : List Value).toArray } = H at k₃ m₃ hns hsb ⊢
  generalize hX : (fun b => X₂ b ∨ b = acc) = X₃ at k₃ m₃
  have hC : ∀ x, H.objs.size ≤ x → H.get? x = Option.none := fun x hx => by
    cases q : H.get? x with
    | none => rfl
    | some o => exact absurd (Heap.lt_size q) (Nat.not_lt.mpr hx)
  have up : ∀ b o, H.get? b = some o → h₄.get? b = some o := fun b o e => hsb.extBut b o (Nat.ne_of_lt (Heap.lt_size e)) (Heap.get?_push_of_some _ e)
  generalize hCC : H.objs.size = C at hns hsb hC ⊢
  have hCx : ¬ X₃ C := fun q => by
    obtain ⟨o, e⟩ := k₃.base.live C q
    have : H.get? C = some o := e
    rw [hC C (Nat.le_refl _)] at this; cases this
  -- the loop's own frame
  let env' : Env := { scope := relS scope, locals := C, globals := c.env.globals, cells := clo c.env scope.names [], qual := c.env.qual, func := none, code := c.env.code, frame := c.env.frame, builtins := c.env.builtins }
  let P0 : Addr → Prop := fun x => x ∈ cc.map (·.2.1) ∨ x ∈ ((acc, Mu.lst []) :: mu₂).map (·.1)
  obtain ⟨Hm, hma, hmo⟩ := masked H a
  have hm1 : ∀ b o, Hm.get? b = some o → H.get? b = some o := fun b o e => by
    by_cases q : b = a
    · rw [q, hma] at e; cases e
    · rwa [hmo b q] at e
  have hm0 : ∀ b, H.get? b = Option.none → Hm.get? b = Option.none := fun b e => by
    by_cases q : b = a
    · rw [q, hma]
    · rw [hmo b q, e]
  let c' : Ctx := ⟨env', c.A, c.n, Hm, fun x => P0 x ∧ x ≠ a, fun x => X₃ x ∧ x ≠ a⟩
  have amu : a ∈ ((acc, Mu.lst []) :: mu₂).map (·.1) := .tail _ (List.mem_map_of_mem (f := fun x : Addr × Mu => x.1) hu.mem)
  let X₄ : Addr → Prop := fun b => X₃ b ∨ b = C
  have m₄ : Mv X₃ H X₄ h₄ := fun b o n e => ⟨fun q => q.elim n fun q => absurd e (by rw [q, hC C (Nat.le_refl _)]; intro z; cases z), up b o e⟩
  have ccIn : ∀ p ∈ cc, p ∈ cl₂ := fun p hp => (sk.cel_mem p hp).2
  have nd := k₃.nodup
  unfold own at nd
  rw [List.nodup_cons, List.nodup_append] at nd
  have ownP : ∀ x, P0 x → x ∈ own c ⟨l₂, cl₂, (acc, Mu.lst []) :: mu₂⟩ := fun x hx => by
    unfold own
    rcases hx with hx | hx
    · obtain ⟨p, hp, rfl⟩ := List.mem_map.mp hx
      exact .tail _ (List.mem_append_left _ (List.mem_map_of_mem (f := fun x : Str × Addr × Option D => x.2.1) (ccIn p hp)))
    · exact .tail _ (List.mem_append_right _ hx)
  have cc_nd : (cc.map (·.2.1)).Nodup := by
    have nn : (cc.map (·.1)).Nodup := sk.cel_names.nodup hnd
    have inj : ∀ p ∈ cc, ∀ q ∈ cc, p.1 ≠ q.1 → p.2.1 ≠ q.2.1 := fun p hp q hq ne e => by
      have go : ∀ {cl : List (Str × Addr × Option D)}, (cl.map (·.2.1)).Nodup → p ∈ cl → q ∈ cl → p = q := by
        intro cl
        induction cl with
        | nil => intro _ hp; cases hp
        | cons x r ih =>
          intro hn hp hq
          rw [List.map_cons, List.nodup_cons] at hn
          rcases List.mem_cons.mp hp with h1 | hp <;> rcases List.mem_cons.mp hq with h2 | hq
          · exact h1.trans h2.symm
          · exact absurd (List.mem_map.mpr ⟨q, hq, by rw [← e, h1]⟩) hn.1
          · exact absurd (List.mem_map.mpr ⟨p, hp, by rw [e, h2]⟩) hn.1
          · exact ih hn.2 hp hq
      exact ne (congrArg (·.1) (go nd.2.1 (ccIn p hp) (ccIn q hq)))
    have go : ∀ {cl' : List (Str × Addr × Option D)}, (∀ p ∈ cl', p ∈ cc) → (cl'.map (·.1)).Nodup → (cl'.map (·.2.1)).Nodup := by
      intro cl'
      induction cl' with
      | nil => intros; exact List.nodup_nil
      | cons p r ih =>
        intro hm hn
        rw [List.map_cons, List.nodup_cons] at hn ⊢
        refine ⟨fun hx => ?_, ih (fun q hq => hm q (.tail _ hq)) hn.2⟩
        obtain ⟨q, hq, z⟩ := List.mem_map.mp hx
        exact inj q (hm q (.tail _ hq)) p (hm p (.head _)) (fun y => hn.1 (List.mem_map.mpr ⟨q, hq, y⟩)) z
    exact go (fun _ z => z) nn
  have liveOwn : ∀ x ∈ own c ⟨l₂, cl₂, (acc, Mu.lst []) :: mu₂⟩, ∃ o, H.get? x = some o := fun x hx => k₃.base.live x (k₃.mine x hx).1
  have PneC : ∀ x, P0 x → x ≠ C := fun x hx e => by
    obtain ⟨o, q⟩ := liveOwn x (ownP x hx)
    rw [e, hC C (Nat.le_refl _)] at q; cases q
  have ok : Ok g c' X₄ ⟨lc, cc, (acc, Mu.lst []) :: mu₂⟩ { s₂ with heap := h₄, toks := s₂.toks + ([] : List (Str × Value)).length } := by
    refine ⟨⟨hkind, k.cok.globals, k.cok.builtins, k.cok.room, fun b hb => (k₃.base.live b hb.1).imp fun o e => (hmo b hb.2).trans e, fun x hx => ⟨(k₃.mine x (ownP x hx.1)).1, hx.2⟩⟩, ⟨fun b o e => ?_, k₂.base.gens, k₂.base.os, fun b q => ?_⟩, fun b o e _ => up b o (hm1 b o e), fun b q => .inl q.1, ?_, ?_, ?_, ⟨_, hns, fun p hp => ?_⟩, fun p hp => ?_, fun p hp => (k₃.mu p hp).mv m₄ fun o e => up _ _ e⟩
    · obtain ⟨p, q⟩ := k₃.base.keep b o e
      exact m₄ b o p q
    · rcases q with q | rfl
      · obtain ⟨o, e⟩ := k₃.base.live b q
        exact ⟨o, up b o e⟩
      · obtain ⟨o, _, _, e, _⟩ := hns
        exact ⟨o, e⟩
    · show (C :: (cc.map (·.2.1) ++ ((acc, Mu.lst []) :: mu₂).map (·.1))).Nodup
      rw [List.nodup_cons, List.nodup_append]
      refine ⟨fun hx => ?_, cc_nd, nd.2.2.1, fun x hx y hy => ?_⟩
      · exact PneC C (List.mem_append.mp hx) rfl
      · obtain ⟨p, hp, rfl⟩ := List.mem_map.mp hx
        exact nd.2.2.2 _ (List.mem_map_of_mem (f := fun x : Str × Addr × Option D => x.2.1) (ccIn p hp)) y hy
    · intro x hx
      have hx' : x ∈ C :: (cc.map (·.2.1) ++ ((acc, Mu.lst []) :: mu₂).map (·.1)) := hx
      rcases List.mem_cons.mp hx' with rfl | hx'
      · exact ⟨.inr rfl, .inr (hm0 _ (hC _ (Nat.le_refl _)))⟩
      · have := List.mem_append.mp hx'
        refine ⟨.inl (k₃.mine x (ownP x this)).1, ?_⟩
        by_cases q : x = a
        · exact .inr (q ▸ hma)
        · exact .inl ⟨this, q⟩
    · exact sk.loc_names.nodup hnd
    · obtain ⟨h1, h2⟩ := sk.loc_mem p hp
      refine ⟨?_, List.all_eq_true.mp hs3 _ h1, fun d e => by rw [h2] at e; cases e⟩
      show (scope.names.map relN).lookup p.1 = _
      exact lookup_mem (by rw [relS_names]; exact hnd) (List.mem_map.mpr ⟨_, h1, rfl⟩)
    · obtain ⟨h1, h2⟩ := sk.cel_mem p hp
      obtain ⟨q1, q2, q3, o, v, q4, q5, q6⟩ := k₃.cel p h2
      refine ⟨?_, q2, ?_, o, v, up _ _ q4, q5, fun d e => ?_⟩
      · show (scope.names.map relN).lookup p.1 = _
        exact lookup_mem (by rw [relS_names]; exact hnd) (List.mem_map.mpr ⟨_, h1, rfl⟩)
      · show (clo c.env scope.names []).lookup p.1 = _
        rw [clo_lookup h1, q3]; rfl
      · obtain ⟨v', a, b⟩ := q6 d e
        exact ⟨v', a, b.mv m₄⟩
  have loop := h₂ acc hacc c' rfl rfl (fun b hb => ⟨k₃.xc b hb, fun e => hax (e ▸ hb)⟩) (fun q => q.2 rfl)
  have hmu : MLk a u ((acc, Mu.lst []) :: mu₂) := .there hu
  have fin : codeAny g.M c.A (.compLoop (.ListComp elt [⟨target, iter, ifs, 0⟩] scope pos) 0 (.ref a) (.ref acc) env') (compPost g.M c.A noE use R (.ref acc) C) { s₂ with heap := h₄, toks := s₂.toks + ([] : List (Str × Value)).length } := by
    refine codeAny_mono (loop X₄ _ ok) fun r s' h' => ?_
    obtain ⟨f, rfl, ⟨l', cl', mu'⟩, X', k', m', hcel, q⟩ := h'
    obtain rfl : cl' = cc := hcel
    obtain ⟨mm, hmm, _⟩ := k'.loc
    refine hfin acc C f X' s' ⟨l₂, cl₂, mu'⟩ (fun hx => hCx (k₃.xc C hx)) q ?_ (((M₂.trans m₃).trans m₄).trans m')
    have nd' := k'.nodup
    unfold own at nd'
    rw [List.nodup_cons, List.nodup_append] at nd'
    have CX' : X' C := (k'.mine C (by unfold own; exact .head _)).1
    have M5 : Mv X₃ H X' s'.heap := m₄.trans m'
    have keepH : ∀ b o, H.get? b = some o → ¬ P0 b → s'.heap.get? b = some o := fun b o e n => k'.kept b o ((hmo b (fun q => n (q ▸ .inr amu))).trans e) fun q => n q.1
    have muP : ∀ x ∈ mu'.map (·.1), X' x ∧ (P0 x ∨ H.get? x = Option.none) ∧ x ≠ C := fun x hx => by
      have := k'.mine x (by unfold own; exact .tail _ (List.mem_append_right _ hx))
      refine ⟨this.1, ?_, fun e => nd'.1 (List.mem_append_right _ (show C ∈ mu'.map (·.1) from e ▸ hx))⟩
      rcases this.2 with q | q
      · exact .inl q.1
      · by_cases z : x = a
        · exact .inl (z ▸ .inr amu)
        · exact .inr ((hmo x z).symm.trans q)
    have old : ∀ x ∈ own c ⟨l₂, cl₂, (acc, Mu.lst []) :: mu₂⟩, x ≠ a → X' x ∧ x ≠ C := fun x hx hxa => by
      obtain ⟨o, e⟩ := liveOwn x hx
      exact ⟨k'.xc x ⟨(k₃.mine x hx).1, hxa⟩, fun z => by rw [z, hC C (Nat.le_refl _)] at e; cases e⟩
    have hiNone : ∀ x, H.get? x = Option.none → c.hI.get? x = Option.none := fun x hx => by
      cases e : c.hI.get? x with
      | none => rfl
      | some o =>
        by_cases hp : c.P x
        · obtain ⟨o', e'⟩ := k₃.base.live x (k₃.xc _ (k.cok.px _ hp))
          have : H.get? x = some o' := e'
          rw [hx] at this; cases this
        · have : H.get? x = some o := k₃.kept _ _ e hp
          rw [hx] at this; cases this
    have celOwn : ∀ p ∈ cl₂, p.2.1 ∈ own c ⟨l₂, cl₂, (acc, Mu.lst []) :: mu₂⟩ := fun p hp => by unfold own; exact .tail _ (List.mem_append_left _ (List.mem_map_of_mem (f := fun x : Str × Addr × Option D => x.2.1) hp))
    have locOwn : c.env.locals ∈ own c ⟨l₂, cl₂, (acc, Mu.lst []) :: mu₂⟩ := by unfold own; exact .head _
    have locA : c.env.locals ≠ a := fun e => nd.1 (List.mem_append_right _ (e ▸ amu))
    have celA : ∀ p ∈ cl₂, p.2.1 ≠ a := fun p hp e => nd.2.2.2 _ (List.mem_map_of_mem (f := fun x : Str × Addr × Option D => x.2.1) hp) a amu e
    have celAddr : ∀ p ∈ cl₂, ∀ x ∈ mu'.map (·.1), p.2.1 ≠ x := fun p hp x hx e => by
      obtain ⟨_, q, _⟩ := muP x hx
      rcases q with (q | q) | q
      · exact nd'.2.2.2 x q x hx rfl
      · exact nd.2.2.2 _ (List.mem_map_of_mem (f := fun x : Str × Addr × Option D => x.2.1) hp) x q e
      · obtain ⟨o, z⟩ := liveOwn _ (celOwn p hp)
        rw [e, q] at z; cases z
    have locAddr : ∀ x ∈ mu'.map (·.1), c.env.locals ≠ x := fun x hx e => by
      obtain ⟨_, q, _⟩ := muP x hx
      rcases q with (q | q) | q
      · exact nd.1 (e ▸ List.mem_append_left _ (by obtain ⟨p, hp, z⟩ := List.mem_map.mp q; exact z ▸ List.mem_map_of_mem (f := fun x : Str × Addr × Option D => x.2.1) (ccIn p hp)))
      · exact nd.1 (e ▸ List.mem_append_right _ q)
      · obtain ⟨o, z⟩ := liveOwn _ locOwn
        rw [e, q] at z; cases z
    refine ⟨k.cok, k'.base, fun b o e n => ?_, fun b hb => k'.xc b ⟨k₃.xc b hb, fun e => hax (e ▸ hb)⟩, ?_, ?_, k₂.names, ?_, fun p hp => ?_, fun p hp => ?_⟩
    · refine keepH b o (k₃.kept b o e n) fun hp => ?_
      rcases (k₃.mine b (ownP b hp)).2 with z | z
      · exact n z
      · rw [z] at e; cases e
    · show (c.env.locals :: (cl₂.map (·.2.1) ++ C :: mu'.map (·.1))).Nodup
      rw [List.nodup_cons, List.nodup_append, List.nodup_cons]
      refine ⟨fun hx => ?_, nd.2.1, ⟨fun hx => (muP C hx).2.2 rfl, nd'.2.2.1⟩, fun x hx y hy e => ?_⟩
      · rcases List.mem_append.mp hx with hx | hx
        · exact nd.1 (List.mem_append_left _ hx)
        · rcases List.mem_cons.mp hx with hx | hx
          · exact (old _ locOwn locA).2 hx
          · exact locAddr _ hx rfl
      · obtain ⟨p, hp, rfl⟩ := List.mem_map.mp hx
        rcases List.mem_cons.mp hy with hy | hy
        · exact (old _ (celOwn p hp) (celA p hp)).2 (e.trans hy)
        · exact celAddr p hp y hy e
    · intro x hx
      have hx' : x ∈ c.env.locals :: (cl₂.map (·.2.1) ++ C :: mu'.map (·.1)) := hx
      have one : x ∈ own c ⟨l₂, cl₂, (acc, Mu.lst []) :: mu₂⟩ → x ≠ a → X' x ∧ (c.P x ∨ c.hI.get? x = Option.none) := fun z za => ⟨(old x z za).1, (k₃.mine x z).2⟩
      rcases List.mem_cons.mp hx' with rfl | hx'
      · exact one locOwn locA
      · rcases List.mem_append.mp hx' with hx' | hx'
        · obtain ⟨p, hp, rfl⟩ := List.mem_map.mp hx'
          exact one (celOwn p hp) (celA p hp)
        · rcases List.mem_cons.mp hx' with rfl | hx'
          · exact ⟨CX', .inr (hiNone _ (hC _ (Nat.le_refl _)))⟩
          · obtain ⟨q1, q2, q3⟩ := muP x hx'
            refine ⟨q1, ?_⟩
            rcases q2 with q2 | q2
            · exact (k₃.mine x (ownP x q2)).2
            · exact .inr (hiNone x q2)
    · obtain ⟨m, hm, r⟩ := k₃.loc
      refine ⟨m, hm.at' fun o e => keepH _ o e fun hp => ?_, fun p hp => ⟨(r p hp).1, (r p hp).2.1, fun d e => ?_⟩⟩
      · rcases hp with hp | hp
        · obtain ⟨p, hp, z⟩ := List.mem_map.mp hp
          exact nd.1 (List.mem_append_left _ (z ▸ List.mem_map_of_mem (f := fun x : Str × Addr × Option D => x.2.1) (ccIn p hp)))
        · exact nd.1 (List.mem_append_right _ hp)
      · obtain ⟨v, a, b⟩ := (r p hp).2.2 d e
        exact ⟨v, a, b.mv M5⟩
    · obtain ⟨x, y, w, o, v, ho, hd, f⟩ := k₃.cel p hp
      by_cases hin : p.2.1 ∈ cl'.map (·.2.1)
      · obtain ⟨q', hq, e⟩ := List.mem_map.mp hin
        have go : ∀ {cl : List (Str × Addr × Option D)}, (cl.map (·.2.1)).Nodup → p ∈ cl → q' ∈ cl → p = q' := by
          intro cl
          induction cl with
          | nil => intro _ hp; cases hp
          | cons x r ih =>
            intro hn hp hq
            rw [List.map_cons, List.nodup_cons] at hn
            rcases List.mem_cons.mp hp with h1 | hp <;> rcases List.mem_cons.mp hq with h2 | hq
            · exact h1.trans h2.symm
            · exact absurd (List.mem_map.mpr ⟨q', hq, by rw [e, h1]⟩) hn.1
            · exact absurd (List.mem_map.mpr ⟨p, hp, by rw [← e, h2]⟩) hn.1
            · exact ih hn.2 hp hq
        obtain rfl := go nd.2.1 hp (ccIn q' hq)
        obtain ⟨_, _, _, o', v', ho', hd', f'⟩ := k'.cel p hq
        exact ⟨x, y, w, o', v', ho', hd', f'⟩
      · refine ⟨x, y, w, o, v, keepH _ _ ho fun hp' => ?_, hd, fun d e => ?_⟩
        · rcases hp' with hp' | hp'
          · exact hin hp'
          · exact nd.2.2.2 _ (List.mem_map_of_mem (f := fun x : Str × Addr × Option D => x.2.1) hp) _ hp' rfl
        · obtain ⟨u', a, b⟩ := f d e
          exact ⟨u', a, b.mv M5⟩
    · rcases List.mem_cons.mp hp with rfl | hp
      · exact ⟨mm, hmm⟩
      · exact k'.mu p hp
  refine codeAny_compStart_list fin ?_
  exact pyIter_self (ok.mu _ hmu.mem) hiu fin
theorem ew_mcomp {l cl mu} (hn : notSetE iter = true) (hsc : compSc scope = true) (hfr : freeIn cl scope.names = true)
    (h : EW g c iter ⟨l, cl, mu⟩ fun d st₁ => IterW g c d st₁ fun a st₂ => ¬ c.Xc a ∧ ∃ u, MLk a u st₂.mu ∧ isIt u = true ∧ ∃ lc cc, ScK st₂.cel scope.names lc cc ∧
      ∀ acc, ¬ c.Xc acc → ∀ c', c'.env.scope = relS scope → c'.n = c.n → (∀ b, c.Xc b → c'.Xc b) → ¬ c'.Xc a → COMP g c' elt target iter ifs scope pos a acc ⟨lc, cc, (acc, .lst []) :: st₂.mu⟩ fun st₃ => st₃.cel = cc ∧ Q (.mlst acc) ⟨st₂.loc, st₂.cel, st₃.mu⟩) :
    EW g c (.ListComp elt [⟨target, iter, ifs, 0⟩] scope pos) ⟨l, cl, mu⟩ Q := fun X s k => by
  show wpAny _ _ (eval (.ListComp elt [⟨target, iter, ifs, 0⟩] scope pos) c.env) _ _ _
  rw [eval_ListComp]
  refine comp_core hn hsc hfr h k fun acc C f X' s' st₄ hC q k₄ m₄ => ?_
  obtain ⟨m, hm⟩ := k₄.mu _ (.head _)
  refine ⟨m, hm, fun h' hs => ?_⟩
  obtain ⟨k₅, m₅⟩ := k₄.gone (h' := h') (tk := s'.toks) .here hC fun b o n e => hs.extBut b o n e
  exact ⟨.mlst acc, st₄, _, k₅, m₄.trans m₅, rfl, q⟩
/-- a statement that stores what a comprehension makes -/
theorem xw_comp {l cl mu} {y : Str} {py spos : Pos} {Q : Fl → St → Prop} (hl : (py.line == pos.line) = true) (hn : notSetE iter = true) (hsc : compSc scope = true) (hfr : freeIn cl scope.names = true)
    (hy : Nm y l) (hny : (scope.names.any fun x => match x with | (n, k) => n == y && (k == .local || k == .cell)) = false)
    (h : EW g c iter ⟨l, cl, mu⟩ fun d st₁ => IterW g c d st₁ fun a st₂ => ¬ c.Xc a ∧ ∃ u, MLk a u st₂.mu ∧ isIt u = true ∧ ∃ lc cc, ScK st₂.cel scope.names lc cc ∧
      ∀ acc, ¬ c.Xc acc → ∀ c', c'.env.scope = relS scope → c'.n = c.n → (∀ b, c.Xc b → c'.Xc b) → ¬ c'.Xc a → COMP g c' elt target iter ifs scope pos a acc ⟨lc, cc, (acc, .lst []) :: st₂.mu⟩ fun st₃ => st₃.cel = cc ∧ ∃ l', Up y (.mlst acc) st₂.loc l' ∧ Q .next ⟨l', st₂.cel, st₃.mu⟩) :
    XW1 g c (.Assign [.Name y py] (.ListComp elt [⟨target, iter, ifs, 0⟩] scope pos) spos) ⟨l, cl, mu⟩ Q := fun X s k => by
  have hsw : swapsWith (.ListComp elt [⟨target, iter, ifs, 0⟩] scope pos) (some (.Name y py)) spos.line c.env = pure true := by
    show (pure (c.env.blockKind == .function && c.env.kindOf y == some .local && py.line == pos.line && !(scope.names.any fun x => match x with | (n, k) => n == y && (k == .local || k == .cell))) : Sem Bool) = _
    rw [k.block, hy.kind k, hl, hny]; rfl
  show wpAny _ _ (exec (.Assign [.Name y py] (.ListComp elt [⟨target, iter, ifs, 0⟩] scope pos) spos) c.env) _ _ _
  rw [exec_Assign_Name_used _ _ _ _ hsw]
  refine wpAny_bind (wpAny_standAt (wpAny_bind ?_))
  show wpAny _ c.A (do let _ ← comprehension (.ListComp elt [⟨target, iter, ifs, 0⟩] scope pos) scope c.env _ (newList []) _ (firstIter [⟨target, iter, ifs, 0⟩] c.env) (some (assign (.Name y py) c.env))) _ _ s
  refine wpAny_bind (wpAny_mono (Q := fun _ s' => PostF g c X s Q .next s') (comp_core (P := fun acc st => ∃ l', Up y (.mlst acc) st.loc l' ∧ Q .next ⟨l', st.cel, st.mu⟩) hn hsc hfr h k fun acc C f X' s' st₄ hC q k₄ m₄ => ?_) (fun _ _ z => wpAny_pure (wpAny_pure z)) fun _ _ z => z)
  obtain ⟨l', u, q⟩ := q
  show wpAny g.M c.A (assign (.Name y py) c.env (.ref acc)) _ noE s'
  refine assign_Name (k₄.sto (d := .mlst acc) (v := .ref acc) rfl (.loc u) fun h' tk k₅ m₅ => ?_)
  obtain ⟨m, hm⟩ := k₅.mu _ (.head _)
  refine ⟨m, hm, fun h'' hs => ?_⟩
  obtain ⟨k₆, m₆⟩ := k₅.gone (h' := h'') (tk := tk) .here hC fun b o n e => hs.extBut b o n e
  exact ⟨.next, _, _, k₆, (m₄.trans m₅).trans m₆, rfl, q⟩
end
end Mine
open PySem PySem.W PySem.Calls PyProof.Rows
set_option maxRecDepth 100000
set_option Elab.async false
set_option maxHeartbeats 4000000
set_option linter.unusedVariables false
set_option linter.unusedSimpArgs false
namespace Mine

/-! equality of equal trees -/
mutual
noncomputable def dep : D → Nat
  | .tup ds => deps ds + 1
  | .lst ds => deps ds + 1
  | _ => 0
noncomputable def deps : List D → Nat
  | [] => 0
  | d :: ds => max (dep d) (deps ds)
end
mutual
noncomputable def pureD : D → Bool
  | .int _ => true
  | .bool _ => true
  | .tup ds => pureDs ds
  | .lst ds => pureDs ds
  | _ => false
noncomputable def pureDs : List D → Bool
  | [] => true
  | d :: ds => pureD d && pureDs ds
end
theorem all_true (n : Nat) : ((List.range n).all fun _ => true) = true := List.all_eq_true.mpr fun _ _ => rfl
mutual
theorem eq_same {X₁ X₂ : Addr → Prop} {s : Shared} : ∀ (d : D) (A : Around) (v₁ v₂ : Value), pureD d = true → A.units + dep d < cLine → At X₁ s.heap d v₁ → At X₂ s.heap d v₂ → SeqAt.EqAt A s v₁ v₂ true
  | .int i, A, _, _, _, _, ⟨t, rfl⟩, ⟨u, rfl⟩ => by
    have := SeqAt.EqAt.int_int (A := A) (s := s) i t i u
    rwa [beq_self_eq_true] at this
  | .bool b, A, v₁, v₂, _, _, e₁, e₂ => by
    obtain rfl : v₁ = .bool b := e₁
    obtain rfl : v₂ = .bool b := e₂
    exact .same _
  | .tup ds, A, v₁, v₂, hp, hu, e₁, e₂ => by
    obtain ⟨a, vs, rfl, _, h1, k1⟩ := e₁
    obtain ⟨b, us, rfl, _, h2, k2⟩ := e₂
    have hu' : A.units + (deps ds + 1) < cLine := hu
    by_cases hab : a = b
    · subst hab; exact .same _
    · have := SeqAt.RcAt.tuples (A := A) (s := s) (l := a) (b := b) (e := fun _ => true) (show s.heap.IsTuple a vs.toArray from h1) (show s.heap.IsTuple b us.toArray from h2) (by (first | lia | omega)) fun j j1 j2 =>
        eqs_same ds A.in1 vs us hp (by show A.units + 1 + _ < _; (first | lia | omega)) k1 k2 j (by simpa using j1) (by simpa using j2)
      simp only [List.size_toArray, k1.length, k2.length, beq_self_eq_true, Bool.and_true, all_true] at this
      exact .of_refs hab this
  | .lst ds, A, v₁, v₂, hp, hu, e₁, e₂ => by
    obtain ⟨a, vs, rfl, _, h1, k1⟩ := e₁
    obtain ⟨b, us, rfl, _, h2, k2⟩ := e₂
    have hu' : A.units + (deps ds + 1) < cLine := hu
    by_cases hab : a = b
    · subst hab; exact .same _
    · have := SeqAt.RcAt.lists (A := A) (s := s) (l := a) (b := b) (e := fun _ => true) h1.isList h2.isList (by simp [k1.length, k2.length]) (by (first | lia | omega)) fun j j1 j2 =>
        eqs_same ds A.in1 vs us hp (by show A.units + 1 + _ < _; (first | lia | omega)) k1 k2 j (by simpa using j1) (by simpa using j2)
      rw [all_true] at this
      exact .of_refs hab this
  | .none, _, _, _, hp, _, _, _ | .raw _, _, _, _, hp, _, _, _ | .inst _ _ _, _, _, _, hp, _, _, _ | .mlst _, _, _, _, hp, _, _, _ | .minst _ _ _, _, _, _, hp, _, _, _ | .rng _ _ _, _, _, _, hp, _, _, _ => by cases hp
theorem eqs_same {X₁ X₂ : Addr → Prop} {s : Shared} : ∀ (ds : List D) (A : Around) (vs us : List Value), pureDs ds = true → A.units + deps ds < cLine → Ats X₁ s.heap ds vs → Ats X₂ s.heap ds us → ∀ j (h1 : j < vs.length) (h2 : j < us.length), SeqAt.EqAt A s vs[j] us[j] true
  | [], _, vs, us, _, _, k1, _, j, h1, _ => by
    obtain rfl : vs = [] := k1
    cases h1
  | d :: ds, A, vs, us, hp, hu, k1, k2, j, h1, h2 => by
    obtain ⟨v, r, rfl, a1, b1⟩ := k1
    obtain ⟨u, r', rfl, a2, b2⟩ := k2
    obtain ⟨hp1, hp2⟩ : pureD d = true ∧ pureDs ds = true := by simpa [pureDs] using hp
    have hu' : A.units + max (dep d) (deps ds) < cLine := hu
    cases j with
    | zero => exact eq_same d A v u hp1 (by (first | lia | omega)) a1 a2
    | succ j => exact eqs_same ds A r r' hp2 (by (first | lia | omega)) b1 b2 j (by simpa using h1) (by simpa using h2)
end

section
variable {g : Gl} {c : Ctx} {st : St} {Q : D → St → Prop}
noncomputable def okDep (d : D) : Prop := pureD d = true ∧ dep d ≤ 90
theorem Ok.line {X : Addr → Prop} {s : Shared} (k : Ok g c X st s) {n : Nat} (h : n ≤ 90) : c.A.units + n < cLine := by
  have := k.cok.room.units
  show c.A.units + n < 9900
  (first | lia | omega)
/-- a tree is equal to itself -/
theorem cq_same {d : D} (hd : okDep d) (hs : (match d with | .tup _ => true | .lst _ => true | _ => false) = true) (q : Q (.bool true) st) : CmpQ g c .Eq d d st Q := by
  rintro X s v₁ v₂ k a₁ a₂
  have p : Post g c X s Q (.bool true) s := ⟨.bool true, st, X, k, .refl _ _, rfl, q⟩
  have hu := k.line hd.2
  cases d with
  | tup ds =>
    obtain ⟨a, vs, rfl, _, h1, k1⟩ := a₁
    obtain ⟨b, us, rfl, _, h2, k2⟩ := a₂
    have hu' : c.A.units + (deps ds + 1) < cLine := hu
    have := SeqAt.RcAt.tuples (A := c.A) (s := s) (l := a) (b := b) (e := fun _ => true) (show s.heap.IsTuple a vs.toArray from h1) (show s.heap.IsTuple b us.toArray from h2) (by (first | lia | omega)) fun j j1 j2 =>
        eqs_same ds c.A.in1 vs us hd.1 (by show c.A.units + 1 + _ < _; (first | lia | omega)) k1 k2 j (by simpa using j1) (by simpa using j2)
    simp only [List.size_toArray, k1.length, k2.length, beq_self_eq_true, Bool.and_true, all_true, Bool.not_true] at this
    exact this _ _ _ _ p
  | lst ds =>
    obtain ⟨a, vs, rfl, _, h1, k1⟩ := a₁
    obtain ⟨b, us, rfl, _, h2, k2⟩ := a₂
    have hu' : c.A.units + (deps ds + 1) < cLine := hu
    have := SeqAt.RcAt.lists (A := c.A) (s := s) (l := a) (b := b) (e := fun _ => true) h1.isList h2.isList (by simp [k1.length, k2.length]) (by (first | lia | omega)) fun j j1 j2 =>
        eqs_same ds c.A.in1 vs us hd.1 (by show c.A.units + 1 + _ < _; (first | lia | omega)) k1 k2 j (by simpa using j1) (by simpa using j2)
    simp only [all_true, Bool.not_true] at this
    exact this _ _ _ _ p
  | _ => cases hs
theorem cq_nsame {d : D} (hd : okDep d) (hs : (match d with | .tup _ => true | .lst _ => true | _ => false) = true) (q : Q (.bool false) st) : CmpQ g c .NotEq d d st Q := by
  rintro X s v₁ v₂ k a₁ a₂
  have p : Post g c X s Q (.bool false) s := ⟨.bool false, st, X, k, .refl _ _, rfl, q⟩
  have hu := k.line hd.2
  cases d with
  | tup ds =>
    obtain ⟨a, vs, rfl, _, h1, k1⟩ := a₁
    obtain ⟨b, us, rfl, _, h2, k2⟩ := a₂
    have hu' : c.A.units + (deps ds + 1) < cLine := hu
    have := SeqAt.RcNeAt.tuples (A := c.A) (s := s) (l := a) (b := b) (e := fun _ => true) (show s.heap.IsTuple a vs.toArray from h1) (show s.heap.IsTuple b us.toArray from h2) (by (first | lia | omega)) fun j j1 j2 =>
        eqs_same ds c.A.in1 vs us hd.1 (by show c.A.units + 1 + _ < _; (first | lia | omega)) k1 k2 j (by simpa using j1) (by simpa using j2)
    simp only [List.size_toArray, k1.length, k2.length, beq_self_eq_true, Bool.and_true, all_true, Bool.not_true] at this
    exact this _ _ _ _ p
  | lst ds =>
    obtain ⟨a, vs, rfl, _, h1, k1⟩ := a₁
    obtain ⟨b, us, rfl, _, h2, k2⟩ := a₂
    have hu' : c.A.units + (deps ds + 1) < cLine := hu
    have := SeqAt.RcNeAt.lists (A := c.A) (s := s) (l := a) (b := b) (e := fun _ => true) h1.isList h2.isList (by simp [k1.length, k2.length]) (by (first | lia | omega)) fun j j1 j2 =>
        eqs_same ds c.A.in1 vs us hd.1 (by show c.A.units + 1 + _ < _; (first | lia | omega)) k1 k2 j (by simpa using j1) (by simpa using j2)
    simp only [all_true, Bool.not_true] at this
    exact this _ _ _ _ p
  | _ => cases hs
variable {ds es : List D} {d : D}
/-- with nothing -/
theorem cq_eq_tup0 (hne : ds ≠ []) (q : Q (.bool false) st) : CmpQ g c .Eq (.tup ds) (.tup []) st Q := by
  rintro X s v₁ v₂ k ⟨a, vs, rfl, _, h1, k1⟩ ⟨b, us, rfl, _, h2, k2⟩
  have e2 : us.length = 0 := k2.length
  have := SeqAt.RcAt.tuples (A := c.A) (s := s) (l := a) (b := b) (e := fun _ => true) (show s.heap.IsTuple a vs.toArray from h1) (show s.heap.IsTuple b us.toArray from h2) (k.line (n := 0) (by (first | lia | omega))) fun j j1 j2 => by
    simp only [List.size_toArray] at j2; (first | lia | omega)
  have e1 : vs.length ≠ 0 := by rw [k1.length]; simpa using hne
  simp only [List.size_toArray, e2, Nat.min_zero, List.range_zero, List.all_nil, Bool.true_and, beq_eq_false_iff_ne.mpr e1] at this
  exact this _ _ _ _ ⟨.bool false, st, X, k, .refl _ _, rfl, q⟩
theorem cq_ne_tup0 (hne : ds ≠ []) (q : Q (.bool true) st) : CmpQ g c .NotEq (.tup ds) (.tup []) st Q := by
  rintro X s v₁ v₂ k ⟨a, vs, rfl, _, h1, k1⟩ ⟨b, us, rfl, _, h2, k2⟩
  have e2 : us.length = 0 := k2.length
  have := SeqAt.RcNeAt.tuples (A := c.A) (s := s) (l := a) (b := b) (e := fun _ => true) (show s.heap.IsTuple a vs.toArray from h1) (show s.heap.IsTuple b us.toArray from h2) (k.line (n := 0) (by (first | lia | omega))) fun j j1 j2 => by
    simp only [List.size_toArray] at j2; (first | lia | omega)
  have e1 : vs.length ≠ 0 := by rw [k1.length]; simpa using hne
  simp only [List.size_toArray, e2, Nat.min_zero, List.range_zero, List.all_nil, Bool.true_and, beq_eq_false_iff_ne.mpr e1, Bool.not_false] at this
  exact this _ _ _ _ ⟨.bool true, st, X, k, .refl _ _, rfl, q⟩
theorem cq_ne_lst0 (hne : ds ≠ []) (q : Q (.bool true) st) : CmpQ g c .NotEq (.lst ds) (.lst []) st Q := by
  rintro X s v₁ v₂ k ⟨a, vs, rfl, _, h1, k1⟩ ⟨b, us, rfl, _, h2, k2⟩
  have e2 : us.length = 0 := k2.length
  have e1 : vs.length ≠ 0 := by rw [k1.length]; simpa using hne
  have := SeqAt.RcNeAt.lists_lengths (A := c.A) (s := s) (l := a) (b := b) h1.isList h2.isList (by simp only [List.size_toArray, e2, bne_iff_ne]; exact e1) (k.line (n := 0) (by (first | lia | omega)))
  exact this _ _ _ _ ⟨.bool true, st, X, k, .refl _ _, rfl, q⟩

/-! builtins -/
variable {a b : Int}
theorem two_ats {X : Addr → Prop} {h : Heap} {d₁ d₂ : D} {vs : List Value} (k : Ats X h [d₁, d₂] vs) : ∃ v₁ v₂, vs = [v₁, v₂] ∧ At X h d₁ v₁ ∧ At X h d₂ v₂ := by
  obtain ⟨v, r, rfl, a, v', r', rfl, a', e⟩ := k
  obtain rfl : r' = [] := e
  exact ⟨v, v', rfl, a, a'⟩
theorem one_at {X : Addr → Prop} {h : Heap} {d₁ : D} {vs : List Value} (k : Ats X h [d₁] vs) : ∃ v₁, vs = [v₁] ∧ At X h d₁ v₁ := by
  obtain ⟨v, r, rfl, a, e⟩ := k
  obtain rfl : r = [] := e
  exact ⟨v, rfl, a⟩
theorem cq_isInt (q : Q (.bool true) st) : CallQ g c (.builtin "isinstance") [.int a, .raw (.type "int")] st Q := fun X s vs k h => by
  obtain ⟨_, _, rfl, ⟨t, rfl⟩, rfl⟩ := two_ats h
  exact IsiPair.int_int ⟨.bool true, st, X, k, .refl _ _, rfl, q⟩
theorem cq_isBool (q : Q (.bool false) st) : CallQ g c (.builtin "isinstance") [.int a, .raw (.type "bool")] st Q := fun X s vs k h => by
  obtain ⟨_, _, rfl, ⟨t, rfl⟩, rfl⟩ := two_ats h
  exact IsiPair.int_bool ⟨.bool false, st, X, k.tok.1, Mv.refl _ _, rfl, q⟩
theorem cq_max (q : Q (.int (if b > a then b else a)) st) : CallQ g c (.builtin "max") [.int a, .int b] st Q := fun X s vs k h => by
  obtain ⟨_, _, rfl, ⟨t, rfl⟩, ⟨u, rfl⟩⟩ := two_ats h
  refine max_two_ints k.cok.room.handled fun h' tk hk => ?_
  obtain ⟨k', M⟩ := k.grow (s' := { s with heap := h', toks := tk }) hk rfl rfl
  exact ⟨.int (if b > a then b else a), st, X, k', M, by split <;> exact ⟨_, rfl⟩, q⟩
theorem cq_min (q : Q (.int (if b < a then b else a)) st) : CallQ g c (.builtin "min") [.int a, .int b] st Q := fun X s vs k h => by
  obtain ⟨_, _, rfl, ⟨t, rfl⟩, ⟨u, rfl⟩⟩ := two_ats h
  refine min_two_ints k.cok.room.handled fun h' tk hk => ?_
  obtain ⟨k', M⟩ := k.grow (s' := { s with heap := h', toks := tk }) hk rfl rfl
  exact ⟨.int (if b < a then b else a), st, X, k', M, by split <;> exact ⟨_, rfl⟩, q⟩
theorem cq_abs (q : Q (.int (if a < 0 then -a else a)) st) : CallQ g c (.builtin "abs") [.int a] st Q := fun X s vs k h => by
  obtain ⟨_, rfl, ⟨t, rfl⟩⟩ := one_at h
  exact call_abs_int fun u tk => ⟨.int (if a < 0 then -a else a), st, X, k.tok.1, Mv.refl _ _, ⟨_, rfl⟩, q⟩
theorem cq_len (hz : ds.length ≤ 2 ^ 24) (q : Q (.int ds.length) st) : CallQ g c (.builtin "len") [.lst ds] st Q := fun X s vs k h => by
  obtain ⟨_, rfl, x, us, rfl, _, h1, k1⟩ := one_at h
  refine call_len_list h1.isList (by simp only [List.size_toArray, k1.length]; (first | lia | omega)) ?_
  exact ⟨.int ds.length, st, X, k.tok.1, Mv.refl _ _, ⟨s.toks + 1, by simp [k1.length]⟩, q⟩
theorem cq_intBool {x : Bool} (q : Q (.int (if x then 1 else 0)) st) : CallQ g c (.type "int") [.bool x] st Q := fun X s vs k h => by
  obtain ⟨_, rfl, rfl⟩ := one_at h
  exact call_int_bool ⟨.int (if x then 1 else 0), st, X, k.tok.1, Mv.refl _ _, ⟨_, rfl⟩, q⟩
theorem cq_range1 (q : Q (.rng 0 a 1) st) : CallQ g c (.type "range") [.int a] st Q := fun X s vs k h => by
  obtain ⟨_, rfl, ⟨t, rfl⟩⟩ := one_at h
  obtain ⟨k', M⟩ := k.grow (s' := { s with heap := s.heap.push { cls := .type "range", data := .fields #[.int 0 s.toks, .int a t, .int 1 (s.toks + 1)] }, toks := s.toks + 1 + 1 }) (fun _ _ e => get_push e) rfl rfl
  exact call_range_1 ⟨.rng 0 a 1, st, X, k', M, ⟨_, _, _, _, rfl, fresh_not k, Heap.get?_push_size _ rfl⟩, q⟩
theorem cq_range3 {z : Int} (hz : z ≠ 0) (hp : Builtin.divisionGoesByPylong (b - a) z = false) (q : Q (.rng a b z) st) : CallQ g c (.type "range") [.int a, .int b, .int z] st Q := fun X s vs k h => by
  obtain ⟨_, r, rfl, ⟨t, rfl⟩, h⟩ := h
  obtain ⟨_, _, rfl, ⟨u, rfl⟩, ⟨w, rfl⟩⟩ := two_ats h
  obtain ⟨k', M⟩ := k.grow (s' := { s with heap := s.heap.push { cls := .type "range", data := .fields #[.int a t, .int b u, .int z w] }, toks := s.toks }) (fun _ _ e => get_push e) rfl rfl
  exact call_range_3 hz ⟨.rng a b z, st, X, k', M, ⟨_, _, _, _, rfl, fresh_not k, Heap.get?_push_size _ rfl⟩, q⟩ (.inl hp)
theorem ints_are {X : Addr → Prop} {h : Heap} : ∀ {ns : List Int} {vs : List Value}, Ats X h (ns.map .int) vs → IntsAre vs ns
  | [], _, k => by rw [show _ = [] from k]; exact .nil
  | n :: ns, _, k => by
    obtain ⟨v, r, rfl, ⟨t, rfl⟩, b⟩ := k
    exact .cons _ _ (ints_are b)
theorem cq_sum {ns : List Int} (hz : ns.length ≤ 2 ^ 24) (q : Q (.int ns.sum) st) : CallQ g c (.builtin "sum") [.lst (ns.map .int)] st Q := fun X s vs k h => by
  obtain ⟨_, rfl, x, us, rfl, _, h1, k1⟩ := one_at h
  obtain ⟨m, hm⟩ := k.ns
  refine sumK k.cok.room.handled (frAll hm) (newsAll _ _) h1.isList (ints_are k1) (fun h' tk t' F N => ?_)
  obtain ⟨K', M⟩ := k.byNews (tk := tk) hm F N fun p hp => hp
  exact ⟨.int ns.sum, st, X, K', M, ⟨_, rfl⟩, q⟩
theorem cq_enum {l cl mu} {Q : D → St → Prop} (q : ∀ x y, ¬ c.Xc x → ¬ c.Xc y → Q (.mlst x) ⟨l, cl, (x, .enum y 0) :: (y, .itL 0 ds) :: mu⟩) : CallQ g c (.type "enumerate") [.lst ds] ⟨l, cl, mu⟩ Q := fun X s vs k h => by
  obtain ⟨_, rfl, x, us, rfl, nx, ⟨n, h1⟩, k1⟩ := one_at h
  obtain ⟨k₁, M₁⟩ := k.alloc (o := { cls := .type "list_iterator", data := .fields #[.ref x, .int 0 0] }) (u := .itL 0 ds) rfl fun X' M => ⟨x, us, ⟨_, Heap.get?_push_size _ rfl, rfl, rfl⟩, (M x _ nx h1).1, ⟨n, (M x _ nx h1).2⟩, by simpa using k1.mv M⟩
  have f1 := k.fresh_xc
  have hz : (s.heap.push { cls := .type "list_iterator", data := .fields #[.ref x, .int 0 0] }).objs.size = s.heap.objs.size + 1 := Heap.size_push ..
  obtain ⟨k₂, M₂⟩ := k₁.alloc (o := { cls := .type "enumerate", data := .fields #[.none, .bool false, .ref s.heap.objs.size, rawInt 0, .none, .none] }) (u := .enum s.heap.objs.size 0) rfl fun X' M => ⟨.none, Heap.get?_push_size _ rfl⟩
  have f2 := k₁.fresh_xc
  refine callType_new F.called_enumerate (by decide) (F.typeCall_enumerate_1 _) (F.newCall_enumerate_1 _) (fun obj => F.args_object_init_2 obj _) F.entry_enumerate_new
    (meets_enumerate_new x us.toArray n) ⟨h1, ⟨_, Heap.get?_push_size _ rfl, rfl⟩, ?_⟩
  exact ⟨.mlst _, _, _, k₂, M₁.trans M₂, rfl, q _ _ f2 f1⟩
theorem Ats.flat {X : Addr → Prop} {h : Heap} {ds : List D} {vs : List Value} (k : Ats X h ds vs) : ∀ n, Ats X h (List.replicate n ds).flatten (List.replicate n vs).flatten
  | 0 => (rfl : ([] : List Value) = [])
  | n + 1 => by
    rw [List.replicate_succ, List.replicate_succ, List.flatten_cons, List.flatten_cons]
    exact k.append (Ats.flat k n)
theorem bq_mulL {x : Int} (hx : inI x = true) (hz : ds.length * x.toNat ≤ 2 ^ 24) (hne : ds ≠ []) (q : Q (.lst (List.replicate x.toNat ds).flatten) st) : BinQ g c .Mult (.lst ds) (.int x) st Q := by
  rintro X s v₁ v₂ k ⟨a, vs, rfl, _, ⟨n, h1⟩, k1⟩ ⟨t, rfl⟩
  obtain ⟨m, hm⟩ := k.ns
  have e := k1.length
  have hne' : vs.toArray.isEmpty = false := by
    rw [Array.isEmpty_eq_false_iff]
    intro z
    have : vs = [] := by simpa using z
    rw [this] at e
    exact hne (List.eq_nil_of_length_eq_zero e.symm)
  refine mul_list (frAll hm) (newsAll _ _) h1 (inI_of hx).1 (inI_of hx).2 (by rw [List.size_toArray, e]; exact hz) fun h' F N => ?_
  obtain ⟨K', M⟩ := k.byNews (tk := s.toks) hm F N fun p hp => .tail _ hp
  have o := (N _ (.head _)).1
  rw [hne'] at o
  simp only [Bool.false_eq_true, if_false, listMul_foldl] at o
  exact ⟨.lst (List.replicate x.toNat ds).flatten, st, X, K', M, ⟨_, _, rfl, fresh_not k, ⟨0, by simpa using o⟩, (k1.mv M).flat _⟩, q⟩

/-! what a value is known to be, put otherwise -/
end
end Mine
open PySem PySem.W PySem.Calls PyProof.Rows
set_option maxRecDepth 100000
set_option Elab.async false
set_option maxHeartbeats 4000000
set_option linter.unusedVariables false
set_option linter.unusedSimpArgs false
namespace Mine

section
variable {g : Gl} {c : Ctx} {st : St} {Q : D → St → Prop}
variable {l : List (Str × Option D)} {cl : List (Str × Addr × Option D)} {mu mu' mu₁ : List (Addr × Mu)} {ds : List D} {d : D} {i : Nat}

/-! enumerate -/
theorem upd_get {h : Heap} {y : Addr} {o o' : Obj} (ho : h.get? y = some o) (hf : o'.isFreed = false) : (h.update y fun _ => o').get? y = some o' := Heap.get?_update_self _ ho hf
theorem notFreed {h : Heap} {y : Addr} {o : Obj} (ho : h.get? y = some o) : o.isFreed = false := by
  have := (Heap.get?_some_iff.mp ho).2
  simpa using this
theorem nx_enum {ts : List Expr} {n : Nat} {p : Pos} {x y : Addr} {Qi : D → St → Prop} {Qd : St → Prop} (hm : MLk x (.enum y i) mu) (hm' : MLk y (.itL i (d :: ds)) mu) (hne : x ≠ y) (u₁ : MUp y (.itL (i + 1) ds) mu mu₁) (u₂ : MUp x (.enum y (i + 1)) mu₁ mu')
    (q : Qi (.tup [.int i, d]) ⟨l, cl, mu'⟩) : Nx g c (.Tuple ts n p) x ⟨l, cl, mu⟩ Qi Qd := fun X s k => by
  obtain ⟨old, he⟩ := k.mu _ hm.mem
  obtain ⟨lx, vs, t, nx, hl, ha⟩ := k.mu _ hm'.mem
  obtain ⟨v, r, e, av, ar⟩ := ha
  have hv : vs[i]? = some v := by have := congrArg (·[0]?) e; simpa [List.getElem?_drop] using this
  have hr : vs.drop (i + 1) = r := by rw [← List.drop_drop, e]; rfl
  refine wpAny_pyNext_enum_item he t hl.isList (x := v) (by simpa using hv) hne fun h' he' t' ht' hz' hk' => ?_
  dsimp only
  refine wpAny_letOwnedTupleGo_enum he' fun h₂ he₂ hs₂ => ?_
  have t₂ : h₂.IsListIter y lx (i + 1) := t'.extBut hs₂.extBut (Ne.symm hne)
  obtain ⟨oy, hoy, hcy⟩ := id t₂
  have hy : ∃ o, s.heap.get? y = some o := let ⟨o, ho, _⟩ := t; ⟨o, ho⟩
  obtain ⟨oy₀, hoy₀⟩ := hy
  have sz : s.heap.objs.size ≠ x := fun q => by
    have := Heap.lt_size (show s.heap.get? x = some _ from he)
    rw [q] at this
    exact Nat.lt_irrefl _ this
  -- first the inner iterator, then the enumerate object
  have g₁ := upd_get (o' := oy) hoy₀ (notFreed hoy)
  obtain ⟨k₁, M₁⟩ := k.upd (h' := s.heap.update y fun _ => oy) (tk := s.toks + 1) u₁ (fun b o n e => (Heap.get?_update_ne _ _ _ _ n).trans e) fun M => ⟨lx, vs, ⟨oy, g₁, hcy⟩, nx, ⟨_, (M lx _ nx hl.choose_spec).2⟩, by rw [hr]; exact ar.mv M⟩
  obtain ⟨k₂, M₂⟩ := k₁.upd (h' := h₂) (tk := s.toks + 1) u₂ (fun b o n e => by
    by_cases hb : b = y
    · subst hb
      have : (s.heap.update b fun _ => oy).get? b = some o := e
      rw [g₁] at this; cases this
      exact hoy
    · have e' : s.heap.get? b = some o := (Heap.get?_update_ne _ _ _ _ hb).symm.trans e
      exact hs₂.extBut b o n (hk' b o n hb e')) fun M => ⟨v, by exact_mod_cast he₂⟩
  have tup : h₂.get? s.heap.objs.size = some { cls := .type "tuple", data := .seq #[.int i s.toks, v] } := hs₂.extBut _ _ sz ht'
  exact ⟨.tup [.int i, d], _, X, k₂, M₁.trans M₂, ⟨_, [.int i s.toks, v], rfl, fresh_not k, ⟨_, tup, rfl, 0, rfl⟩, _, _, rfl, ⟨_, rfl⟩, _, _, rfl, (av.mv M₁).mv M₂, rfl⟩, q⟩
theorem nx_enum_end {target : Expr} {x y : Addr} {mu₁ mu' : List (Addr × Mu)} {Qi : D → St → Prop} {Qd : St → Prop} (hm : MLk x (.enum y i) mu) (hm' : Rm y (.itL i []) mu mu') (hx : ¬ c.Xc y) (q : Qd ⟨l, cl, mu'⟩) : Nx g c target x ⟨l, cl, mu⟩ Qi Qd := fun X s k => by
  obtain ⟨old, he⟩ := k.mu _ hm.mem
  obtain ⟨lx, vs, t, nx, hl, ha⟩ := k.mu _ (hm'.perm.mem_iff.mpr (.head _))
  have hv : vs[i]? = none := by
    have : vs.drop i = [] := ha
    rw [List.getElem?_eq_none_iff]
    exact List.drop_eq_nil_iff.mp this
  refine wpAny_pyNext_enum_end k.cok.room.handled he t hl.isList (by simpa using hv) fun h' hs => ?_
  obtain ⟨k', M⟩ := k.gone (h' := h') (tk := s.toks) hm' hx hs
  exact ⟨_, _, k', M, q⟩

/-! slices -/
noncomputable abbrev isName : Expr → Bool := nameTarget
theorem letGo_none {value : Expr} (h : isName value = true) : ∀ o r, letTemporaryGo value o r = pure () := by cases value <;> first | (intro _ _; rfl) | cases h
variable {Q : D → St → Prop}
inductive KFrom (a : Nat) (Q : D → St → Prop) (d : D) (st : St) : Prop
  | mk (ds : List D) (e : d = .lst ds) (hz : ds.length ≤ 2 ^ 24) (q : Q (.lst (ds.drop a)) st)
inductive KRun3 (Q : D → St → Prop) (d d₁ d₂ : D) (st : St) : Prop
  | mk (ds : List D) (a b : Nat) (e : d = .lst ds) (e₁ : d₁ = .int a) (e₂ : d₂ = .int b) (hz : ds.length ≤ 2 ^ 24) (hab : a ≤ b) (hb : b ≤ ds.length) (q : Q (.lst ((ds.drop a).take (b - a))) st)
noncomputable abbrev KRun2 (g : Gl) (c : Ctx) (e₂ : Expr) (Q : D → St → Prop) (d : D) : D → St → Prop := fun d₁ st₂ => EW g c e₂ st₂ (KRun3 Q d d₁)
noncomputable abbrev KRun1 (g : Gl) (c : Ctx) (e₁ e₂ : Expr) (Q : D → St → Prop) : D → St → Prop := fun d st₁ => EW g c e₁ st₁ (KRun2 g c e₂ Q d)
theorem ew_from {value : Expr} {a : Nat} {n : Nat} {p p' pos : Pos} (hv : isName value = true) (h : EW g c value st (KFrom a Q)) : EW g c (.Subscript value (.Slice (some (.Constant (.int a) n p)) none none p') pos) st Q := fun X s k => by
  refine wpAny_Subscript_list_slice (wpAny_mono (h X s k) (fun o s₁ h₁ => ?_) fun _ _ z => z) (letGo_none hv)
  obtain ⟨d, st₁, X₁, k₁, m₁, a₁, ds, rfl, hz, q⟩ := h₁
  obtain ⟨x, vs, rfl, nx, hl, ha⟩ := a₁
  have e := ha.length
  refine wpAny_evalPart_some (wpAny_Constant_int (wpAny_evalPart_none ?_))
  refine ⟨x, vs.toArray, _, _, rfl, hl.isList, by rw [List.size_toArray, e, sizeLine_eq]; (first | lia | omega), .int _ _, .none, ?_⟩
  rw [slicePick_from']
  obtain ⟨k₂, m₂⟩ := k₁.grow (s' := { s₁ with heap := (s₁.heap.push { cls := .type "slice", data := .fields #[.int a s₁.toks, .none, .none] }).push { cls := .type "list", data := .seq (vs.drop a).toArray }, toks := s₁.toks + 1 }) (fun _ _ e => get_push (get_push e)) rfl rfl
  have nf : ¬ X₁ (s₁.heap.objs.size + 1) := fun h => by
    obtain ⟨o, e⟩ := k₁.base.live _ h
    exact absurd (Heap.lt_size e) (Nat.not_lt.mpr (Nat.le_succ _))
  exact ⟨.lst (ds.drop a), _, X₁, k₂, m₁.trans m₂, ⟨_, vs.drop a, rfl, nf, ⟨0, by
    have := Heap.get?_push_size (s₁.heap.push { cls := .type "slice", data := .fields #[.int a s₁.toks, .none, .none] }) (o := { cls := .type "list", data := .seq (vs.drop a).toArray }) rfl
    rwa [Heap.size_push] at this⟩, (ha.mv m₂).drop a⟩, q⟩
theorem ew_run {value e₁ e₂ : Expr} {p' pos : Pos} (hv : isName value = true) (h : EW g c value st (KRun1 g c e₁ e₂ Q)) :
    EW g c (.Subscript value (.Slice (some e₁) (some e₂) none p') pos) st Q := fun X s k => by
  refine wpAny_Subscript_list_slice (wpAny_mono (h X s k) (fun o s₁ h₁ => ?_) fun _ _ z => z) (letGo_none hv)
  obtain ⟨d, st₁, X₁, k₁, m₁, a₁, h₁⟩ := h₁
  refine wpAny_evalPart_some (wpAny_mono (h₁ X₁ s₁ k₁) (fun vl s₂ h₂ => ?_) fun _ _ z => z)
  obtain ⟨d₁, st₂, X₂, k₂, m₂, a₂, h₂⟩ := h₂
  refine wpAny_evalPart_some (wpAny_mono (h₂ X₂ s₂ k₂) (fun vu s₃ h₃ => ?_) fun _ _ z => z)
  obtain ⟨d₂, st₃, X₃, k₃, m₃, a₃, ds, a, b, rfl, rfl, rfl, hz, hab, hb, q⟩ := h₃
  obtain ⟨x, vs, rfl, nx, hl, ha⟩ := (a₁.mv m₂).mv m₃
  obtain ⟨t, rfl⟩ := a₂
  obtain ⟨u, rfl⟩ := a₃
  have e := ha.length
  refine ⟨x, vs.toArray, _, _, rfl, hl.isList, by rw [List.size_toArray, e, sizeLine_eq]; (first | lia | omega), .int _ _, .int _ _, ?_⟩
  rw [slicePick_run _ _ _ (by rw [List.size_toArray, e]; exact hb) hab]
  obtain ⟨k₄, m₄⟩ := k₃.grow (s' := { s₃ with heap := (s₃.heap.push { cls := .type "slice", data := .fields #[.int a t, .int b u, .none] }).push { cls := .type "list", data := .seq ((vs.drop a).take (b - a)).toArray } }) (fun _ _ e => get_push (get_push e)) rfl rfl
  have nf : ¬ X₃ (s₃.heap.objs.size + 1) := fun h => by
    obtain ⟨o, e⟩ := k₃.base.live _ h
    exact absurd (Heap.lt_size e) (Nat.not_lt.mpr (Nat.le_succ _))
  exact ⟨.lst ((ds.drop a).take (b - a)), _, X₃, k₄, ((m₁.trans m₂).trans m₃).trans m₄, ⟨_, (vs.drop a).take (b - a), rfl, nf, ⟨0, by
    have := Heap.get?_push_size (s₃.heap.push { cls := .type "slice", data := .fields #[.int a t, .int b u, .none] }) (o := { cls := .type "list", data := .seq ((vs.drop a).take (b - a)).toArray }) rfl
    rwa [Heap.size_push] at this⟩, ((ha.mv m₄).drop a).take _⟩, q⟩
end
end Mine
open PySem PySem.W PySem.Calls PyProof.Rows
set_option maxRecDepth 100000
set_option Elab.async false
set_option maxHeartbeats 4000000
namespace Mine
/-- what a global name gives -/
structure NV (g : Gl) (x : Str) (d : D) : Prop where
  rule : ∀ {c : Ctx} {st : St} {Q : D → St → Prop} {pos : Pos}, c.env.kindOf x = some .globalImplicit → Q d st → EW g c (.Name x pos) st Q
theorem kind_of {c : Ctx} {sc : Scope} {x : Str} {k : NameKind} (h : c.env.scope = sc) (e : sc.names.lookup x = some k) : c.env.kindOf x = some k := by
  unfold Env.kindOf; rw [h]; exact e
theorem NV.ofInt {g : Gl} {x : Str} {i : Int} {t : Tok} (e : nsIn g.K mainGlobals x = some (some (.int i t))) (n : okName x = true) : NV g x (.int i) := ⟨fun k q => ew_globInt (mg_of g.kx g.top.g e) k n q⟩
theorem NV.ofRef {g : Gl} {x : Str} {v : Value} (e : nsIn g.K mainGlobals x = some (some v)) (n : okName x = true) : NV g x (.raw v) := ⟨fun k q => ew_glob (mg_of g.kx g.top.g e) k n q⟩
theorem NV.ofB {g : Gl} {x : Str} {v : Value} (e : nsIn g.K mainGlobals x = some none) (hv : bootBuiltins x = some v) (hd : (x == ("__name__" : Str)) = false) (n : okName x = true) : NV g x (.raw v) := ⟨fun k q => ew_builtin (mg_none_of g.kx g.top.g e) hv hd k n q⟩
theorem ew_nv {g : Gl} {c : Ctx} {st : St} {Q : D → St → Prop} {x : Str} {pos : Pos} {d : D} (n : NV g x d) (hk : c.env.kindOf x = some .globalImplicit) (q : Q d st) : EW g c (.Name x pos) st Q := n.rule hk q
inductive NV0 : Str → D → Prop
  | law_take : NV0 (Str.ofString "_law_take") (.raw (.ref 595))
  | len : NV0 (Str.ofString "len") (.raw (.builtin "len"))
  | range : NV0 (Str.ofString "range") (.raw (.type "range"))
  | GLUE : NV0 (Str.ofString "GLUE") (.int 6)
  | KERN : NV0 (Str.ofString "KERN") (.int 5)
  | HBOX : NV0 (Str.ofString "HBOX") (.int 2)
  | VBOX : NV0 (Str.ofString "VBOX") (.int 3)
  | NORMAL : NV0 (Str.ofString "NORMAL") (.int 0)
  | sum : NV0 (Str.ofString "sum") (.raw (.builtin "sum"))
theorem NV0.ok {g : Gl} {x : Str} {d : D} (h : NV0 x d) : NV g x d := NV0.rec (motive := fun x d _ => NV g x d)
  (.ofRef (by kernel_rfl) (by kernel_rfl))
  (.ofB (by kernel_rfl) (by kernel_rfl) (by kernel_rfl) (by kernel_rfl))
  (.ofB (by kernel_rfl) (by kernel_rfl) (by kernel_rfl) (by kernel_rfl))
  (.ofInt (t := 572) (by kernel_rfl) (by kernel_rfl))
  (.ofInt (t := 571) (by kernel_rfl) (by kernel_rfl))
  (.ofInt (t := 568) (by kernel_rfl) (by kernel_rfl))
  (.ofInt (t := 569) (by kernel_rfl) (by kernel_rfl))
  (.ofInt (t := 274) (by kernel_rfl) (by kernel_rfl))
  (.ofB (by kernel_rfl) (by kernel_rfl) (by kernel_rfl) (by kernel_rfl)) h
inductive NV1 : Str → D → Prop
  | max : NV1 (Str.ofString "max") (.raw (.builtin "max"))
  | MAX_DIMEN : NV1 (Str.ofString "MAX_DIMEN") (.int 1073741823)
  | MAX_NUMBER : NV1 (Str.ofString "MAX_NUMBER") (.int 2147483647)
  | INF_BAD : NV1 (Str.ofString "INF_BAD") (.int 10000)
  | FIL : NV1 (Str.ofString "FIL") (.int 1)
  | FILL : NV1 (Str.ofString "FILL") (.int 2)
  | FILLL : NV1 (Str.ofString "FILLL") (.int 3)
  | CHAR : NV1 (Str.ofString "CHAR") (.int 0)
  | LIGATURE : NV1 (Str.ofString "LIGATURE") (.int 1)
theorem NV1.ok {g : Gl} {x : Str} {d : D} (h : NV1 x d) : NV g x d := NV1.rec (motive := fun x d _ => NV g x d)
  (.ofB (by kernel_rfl) (by kernel_rfl) (by kernel_rfl) (by kernel_rfl))
  (.ofInt (t := 264) (by kernel_rfl) (by kernel_rfl))
  (.ofInt (t := 270) (by kernel_rfl) (by kernel_rfl))
  (.ofInt (t := 272) (by kernel_rfl) (by kernel_rfl))
  (.ofInt (t := 275) (by kernel_rfl) (by kernel_rfl))
  (.ofInt (t := 276) (by kernel_rfl) (by kernel_rfl))
  (.ofInt (t := 277) (by kernel_rfl) (by kernel_rfl))
  (.ofInt (t := 566) (by kernel_rfl) (by kernel_rfl))
  (.ofInt (t := 567) (by kernel_rfl) (by kernel_rfl)) h
inductive NV2 : Str → D → Prop
  | RULE : NV2 (Str.ofString "RULE") (.int 4)
  | PENALTY : NV2 (Str.ofString "PENALTY") (.int 7)
  | DISC : NV2 (Str.ofString "DISC") (.int 8)
  | MATH : NV2 (Str.ofString "MATH") (.int 12)
  | UNSET : NV2 (Str.ofString "UNSET") (.int 14)
  | NATURAL : NV2 (Str.ofString "NATURAL") (.int 0)
  | STRETCHED : NV2 (Str.ofString "STRETCHED") (.int 1)
  | SHRUNK : NV2 (Str.ofString "SHRUNK") (.int 2)
  | FONT_KERN : NV2 (Str.ofString "FONT_KERN") (.int 0)
theorem NV2.ok {g : Gl} {x : Str} {d : D} (h : NV2 x d) : NV g x d := NV2.rec (motive := fun x d _ => NV g x d)
  (.ofInt (t := 570) (by kernel_rfl) (by kernel_rfl))
  (.ofInt (t := 573) (by kernel_rfl) (by kernel_rfl))
  (.ofInt (t := 582) (by kernel_rfl) (by kernel_rfl))
  (.ofInt (t := 586) (by kernel_rfl) (by kernel_rfl))
  (.ofInt (t := 588) (by kernel_rfl) (by kernel_rfl))
  (.ofInt (t := 596) (by kernel_rfl) (by kernel_rfl))
  (.ofInt (t := 597) (by kernel_rfl) (by kernel_rfl))
  (.ofInt (t := 598) (by kernel_rfl) (by kernel_rfl))
  (.ofInt (t := 602) (by kernel_rfl) (by kernel_rfl)) h
inductive NV3 : Str → D → Prop
  | MU_KERN : NV3 (Str.ofString "MU_KERN") (.int 3)
  | PLAIN : NV3 (Str.ofString "PLAIN") (.int 0)
  | ALEADERS : NV3 (Str.ofString "ALEADERS") (.int 1)
  | XLEADERS : NV3 (Str.ofString "XLEADERS") (.int 3)
  | NONSCRIPT : NV3 (Str.ofString "NONSCRIPT") (.int 5)
  | NAMED : NV3 (Str.ofString "NAMED") (.int 100)
  | EXACTLY : NV3 (Str.ofString "EXACTLY") (.int 0)
  | SPREAD : NV3 (Str.ofString "SPREAD") (.int 1)
  | FINE : NV3 (Str.ofString "FINE") (.int 0)
theorem NV3.ok {g : Gl} {x : Str} {d : D} (h : NV3 x d) : NV g x d := NV3.rec (motive := fun x d _ => NV g x d)
  (.ofInt (t := 605) (by kernel_rfl) (by kernel_rfl))
  (.ofInt (t := 610) (by kernel_rfl) (by kernel_rfl))
  (.ofInt (t := 611) (by kernel_rfl) (by kernel_rfl))
  (.ofInt (t := 613) (by kernel_rfl) (by kernel_rfl))
  (.ofInt (t := 615) (by kernel_rfl) (by kernel_rfl))
  (.ofInt (t := 616) (by kernel_rfl) (by kernel_rfl))
  (.ofInt (t := 872) (by kernel_rfl) (by kernel_rfl))
  (.ofInt (t := 873) (by kernel_rfl) (by kernel_rfl))
  (.ofInt (t := 876) (by kernel_rfl) (by kernel_rfl)) h
inductive NV4 : Str → D → Prop
  | LOOSE : NV4 (Str.ofString "LOOSE") (.int 1)
  | TIGHT : NV4 (Str.ofString "TIGHT") (.int 2)
  | OVERFULL : NV4 (Str.ofString "OVERFULL") (.int 3)
  | is_whole : NV4 (Str.ofString "is_whole") (.raw (.ref 77))
  | check_whole : NV4 (Str.ofString "check_whole") (.raw (.ref 84))
  | check_number : NV4 (Str.ofString "check_number") (.raw (.ref 91))
  | check_dimen : NV4 (Str.ofString "check_dimen") (.raw (.ref 98))
  | rounded : NV4 (Str.ofString "rounded") (.raw (.ref 105))
  | badness : NV4 (Str.ofString "badness") (.raw (.ref 140))
theorem NV4.ok {g : Gl} {x : Str} {d : D} (h : NV4 x d) : NV g x d := NV4.rec (motive := fun x d _ => NV g x d)
  (.ofInt (t := 877) (by kernel_rfl) (by kernel_rfl))
  (.ofInt (t := 878) (by kernel_rfl) (by kernel_rfl))
  (.ofInt (t := 879) (by kernel_rfl) (by kernel_rfl))
  (.ofRef (by kernel_rfl) (by kernel_rfl))
  (.ofRef (by kernel_rfl) (by kernel_rfl))
  (.ofRef (by kernel_rfl) (by kernel_rfl))
  (.ofRef (by kernel_rfl) (by kernel_rfl))
  (.ofRef (by kernel_rfl) (by kernel_rfl))
  (.ofRef (by kernel_rfl) (by kernel_rfl)) h
inductive NV5 : Str → D → Prop
  | Glue : NV5 (Str.ofString "Glue") (.raw (.ref 222))
  | top_order : NV5 (Str.ofString "top_order") (.raw (.ref 233))
  | Totals : NV5 (Str.ofString "Totals") (.raw (.ref 285))
  | Box : NV5 (Str.ofString "Box") (.raw (.ref 326))
  | Rule : NV5 (Str.ofString "Rule") (.raw (.ref 347))
  | Kern : NV5 (Str.ofString "Kern") (.raw (.ref 368))
  | Skip : NV5 (Str.ofString "Skip") (.raw (.ref 390))
  | Penalty : NV5 (Str.ofString "Penalty") (.raw (.ref 411))
  | Unset : NV5 (Str.ofString "Unset") (.raw (.ref 433))
theorem NV5.ok {g : Gl} {x : Str} {d : D} (h : NV5 x d) : NV g x d := NV5.rec (motive := fun x d _ => NV g x d)
  (.ofRef (by kernel_rfl) (by kernel_rfl))
  (.ofRef (by kernel_rfl) (by kernel_rfl))
  (.ofRef (by kernel_rfl) (by kernel_rfl))
  (.ofRef (by kernel_rfl) (by kernel_rfl))
  (.ofRef (by kernel_rfl) (by kernel_rfl))
  (.ofRef (by kernel_rfl) (by kernel_rfl))
  (.ofRef (by kernel_rfl) (by kernel_rfl))
  (.ofRef (by kernel_rfl) (by kernel_rfl))
  (.ofRef (by kernel_rfl) (by kernel_rfl)) h
inductive NV6 : Str → D → Prop
  | width_of : NV6 (Str.ofString "width_of") (.raw (.ref 442))
  | height_of : NV6 (Str.ofString "height_of") (.raw (.ref 447))
  | depth_of : NV6 (Str.ofString "depth_of") (.raw (.ref 452))
  | line_height : NV6 (Str.ofString "line_height") (.raw (.ref 459))
  | line_depth : NV6 (Str.ofString "line_depth") (.raw (.ref 466))
  | natural_line : NV6 (Str.ofString "natural_line") (.raw (.ref 481))
  | across : NV6 (Str.ofString "across") (.raw (.ref 488))
  | check_column : NV6 (Str.ofString "check_column") (.raw (.ref 495))
  | natural_column : NV6 (Str.ofString "natural_column") (.raw (.ref 502))
theorem NV6.ok {g : Gl} {x : Str} {d : D} (h : NV6 x d) : NV g x d := NV6.rec (motive := fun x d _ => NV g x d)
  (.ofRef (by kernel_rfl) (by kernel_rfl))
  (.ofRef (by kernel_rfl) (by kernel_rfl))
  (.ofRef (by kernel_rfl) (by kernel_rfl))
  (.ofRef (by kernel_rfl) (by kernel_rfl))
  (.ofRef (by kernel_rfl) (by kernel_rfl))
  (.ofRef (by kernel_rfl) (by kernel_rfl))
  (.ofRef (by kernel_rfl) (by kernel_rfl))
  (.ofRef (by kernel_rfl) (by kernel_rfl))
  (.ofRef (by kernel_rfl) (by kernel_rfl)) h
inductive NV7 : Str → D → Prop
  | quotient : NV7 (Str.ofString "quotient") (.raw (.ref 509))
  | set_glue : NV7 (Str.ofString "set_glue") (.raw (.ref 516))
  | flex : NV7 (Str.ofString "flex") (.raw (.ref 523))
  | set_part : NV7 (Str.ofString "set_part") (.raw (.ref 530))
  | part_size : NV7 (Str.ofString "part_size") (.raw (.ref 537))
  | places : NV7 (Str.ofString "places") (.raw (.ref 544))
  | goal_size : NV7 (Str.ofString "goal_size") (.raw (.ref 558))
  | set_box : NV7 (Str.ofString "set_box") (.raw (.ref 565))
  | hpack : NV7 (Str.ofString "hpack") (.raw (.ref 573))
theorem NV7.ok {g : Gl} {x : Str} {d : D} (h : NV7 x d) : NV g x d := NV7.rec (motive := fun x d _ => NV g x d)
  (.ofRef (by kernel_rfl) (by kernel_rfl))
  (.ofRef (by kernel_rfl) (by kernel_rfl))
  (.ofRef (by kernel_rfl) (by kernel_rfl))
  (.ofRef (by kernel_rfl) (by kernel_rfl))
  (.ofRef (by kernel_rfl) (by kernel_rfl))
  (.ofRef (by kernel_rfl) (by kernel_rfl))
  (.ofRef (by kernel_rfl) (by kernel_rfl))
  (.ofRef (by kernel_rfl) (by kernel_rfl))
  (.ofRef (by kernel_rfl) (by kernel_rfl)) h
inductive NV8 : Str → D → Prop
  | vpack : NV8 (Str.ofString "vpack") (.raw (.ref 581))
  | law_box : NV8 (Str.ofString "_law_box") (.raw (.ref 588))
  | law_side : NV8 (Str.ofString "_law_side") (.raw (.ref 602))
  | law_flow : NV8 (Str.ofString "_law_flow") (.raw (.ref 609))
  | law_more : NV8 (Str.ofString "_law_more") (.raw (.ref 614))
  | law_grid : NV8 (Str.ofString "_law_grid") (.raw (.ref 619))
  | law_gap : NV8 (Str.ofString "_law_gap") (.raw (.ref 624))
  | law_cell : NV8 (Str.ofString "_law_cell") (.raw (.ref 631))
  | law_band : NV8 (Str.ofString "_law_band") (.raw (.ref 636))
theorem NV8.ok {g : Gl} {x : Str} {d : D} (h : NV8 x d) : NV g x d := NV8.rec (motive := fun x d _ => NV g x d)
  (.ofRef (by kernel_rfl) (by kernel_rfl))
  (.ofRef (by kernel_rfl) (by kernel_rfl))
  (.ofRef (by kernel_rfl) (by kernel_rfl))
  (.ofRef (by kernel_rfl) (by kernel_rfl))
  (.ofRef (by kernel_rfl) (by kernel_rfl))
  (.ofRef (by kernel_rfl) (by kernel_rfl))
  (.ofRef (by kernel_rfl) (by kernel_rfl))
  (.ofRef (by kernel_rfl) (by kernel_rfl))
  (.ofRef (by kernel_rfl) (by kernel_rfl)) h
inductive NV9 : Str → D → Prop
  | law_made : NV9 (Str.ofString "_law_made") (.raw (.ref 641))
  | law_alike : NV9 (Str.ofString "_law_alike") (.raw (.ref 646))
  | law_spots : NV9 (Str.ofString "_law_spots") (.raw (.ref 653))
  | law : NV9 (Str.ofString "law") (.raw (.ref 660))
  | isinstance : NV9 (Str.ofString "isinstance") (.raw (.builtin "isinstance"))
  | min : NV9 (Str.ofString "min") (.raw (.builtin "min"))
  | abs : NV9 (Str.ofString "abs") (.raw (.builtin "abs"))
  | int : NV9 (Str.ofString "int") (.raw (.type "int"))
  | bool : NV9 (Str.ofString "bool") (.raw (.type "bool"))
theorem NV9.ok {g : Gl} {x : Str} {d : D} (h : NV9 x d) : NV g x d := NV9.rec (motive := fun x d _ => NV g x d)
  (.ofRef (by kernel_rfl) (by kernel_rfl))
  (.ofRef (by kernel_rfl) (by kernel_rfl))
  (.ofRef (by kernel_rfl) (by kernel_rfl))
  (.ofRef (by kernel_rfl) (by kernel_rfl))
  (.ofB (by kernel_rfl) (by kernel_rfl) (by kernel_rfl) (by kernel_rfl))
  (.ofB (by kernel_rfl) (by kernel_rfl) (by kernel_rfl) (by kernel_rfl))
  (.ofB (by kernel_rfl) (by kernel_rfl) (by kernel_rfl) (by kernel_rfl))
  (.ofB (by kernel_rfl) (by kernel_rfl) (by kernel_rfl) (by kernel_rfl))
  (.ofB (by kernel_rfl) (by kernel_rfl) (by kernel_rfl) (by kernel_rfl)) h
inductive NV10 : Str → D → Prop
  | enumerate : NV10 (Str.ofString "enumerate") (.raw (.type "enumerate"))
theorem NV10.ok {g : Gl} {x : Str} {d : D} (h : NV10 x d) : NV g x d := NV10.rec (motive := fun x d _ => NV g x d)
  (.ofB (by kernel_rfl) (by kernel_rfl) (by kernel_rfl) (by kernel_rfl)) h
theorem nv_range {g : Gl} : NV g (Str.ofString "range") (.raw (.type "range")) := NV0.ok .range
end Mine
open PySem PySem.W PySem.Calls PyProof.Rows
set_option maxRecDepth 100000
set_option Elab.async false
set_option maxHeartbeats 4000000
set_option linter.unusedVariables false
namespace Mine
theorem le_of_n {c : Ctx} {n m : Nat} (h : c.n = m) (k : Nat.ble n m = true) : n ≤ c.n := h ▸ Nat.le_of_ble_eq_true k
theorem ex_b {x : Bool} {Q : Bool → St → Prop} {st : St} (h : Q x st) : KBool Q (.bool x) st := ⟨x, rfl, h⟩
theorem ex_sto {n : Str} {d : D} {l l' cl mu} {Q : St → Prop} (u : Up n d l l') (h : Q ⟨l', cl, mu⟩) : KSto n Q d ⟨l, cl, mu⟩ := ⟨_, .loc u, h⟩
theorem ex_stoc {n : Str} {d : D} {l cl cl' mu} {Q : St → Prop} (u : UpC n d cl cl') (h : Q ⟨l, cl', mu⟩) : KSto n Q d ⟨l, cl, mu⟩ := ⟨_, .cel u, h⟩
noncomputable def relI (op : CmpOp) (a b : Int) : Option D := match op with
  | .Eq => some (.bool (decide (a = b)))
  | .NotEq => some (.bool (!decide (a = b)))
  | .Lt => some (.bool (decide (a < b)))
  | .LtE => some (.bool (decide (a ≤ b)))
  | .Gt => some (.bool (decide (b < a)))
  | .GtE => some (.bool (decide (b ≤ a)))
  | _ => none
theorem cq_rel {g : Gl} {c : Ctx} {st : St} {Q : D → St → Prop} {op : CmpOp} {a b : Int} {d : D} (h : relI op a b = some d) (q : Q d st) : CmpQ g c op (.int a) (.int b) st Q := by
  cases op <;> first | (cases h; fail) | skip
  all_goals first | (obtain rfl := Option.some.inj h; first | exact cq_eq q | exact cq_ne q | exact cq_lt q | exact cq_le q | exact cq_gt q | exact cq_ge q) | cases h
theorem ex_call {g : Gl} {c : Ctx} {args : List Expr} {Q : D → St → Prop} {f : Value} {st : St} (hk : (keepIn g.K f || builtinly f) = true) (h : LW g c args st (KCallA g c Q f)) : KCallF g c args Q (.raw f) st := ⟨f, rfl, hk, h⟩
theorem ex_neg {Q : D → St → Prop} {i : Int} {st : St} (h : Q (.int (-i)) st) : KNeg Q (.int i) st := ⟨i, rfl, h⟩
theorem ex_aug {g : Gl} {c : Ctx} {n : Str} {Q : St → Prop} {d₀ : D} {i j : Int} {st : St} (h : SetQ g c d₀ n (.int (i + j)) st Q) : KAug3 g c n Q d₀ (.int i) (.int j) st := ⟨i, j, rfl, rfl, h⟩
theorem ex_two {a b : Str} {Q : St → Prop} {d₁ d₂ : D} {l l₁ l₂ cl mu} (ub : Up b d₂ l l₁) (ua : Up a d₁ l₁ l₂) (q : Q ⟨l₂, cl, mu⟩) : KTwo a b Q [d₁, d₂] ⟨l, cl, mu⟩ := ⟨_, _, _, _, _, _, _, rfl, rfl, ub, ua, q⟩
theorem ex_three {a b d : Str} {Q : St → Prop} {d₁ d₂ d₃ : D} {l l₁ l₂ l₃ cl mu} (ud : Up d d₃ l l₁) (ub : Up b d₂ l₁ l₂) (ua : Up a d₁ l₂ l₃) (q : Q ⟨l₃, cl, mu⟩) : KThree a b d Q [d₁, d₂, d₃] ⟨l, cl, mu⟩ := ⟨_, _, _, _, _, _, _, _, _, rfl, rfl, ud, ub, ua, q⟩
theorem br_t {x : Bool} {A B : Prop} (e : x = true) (h : A) : (x = true → A) ∧ (x = false → B) := ⟨fun _ => h, fun q => by rw [e] at q; cases q⟩
theorem br_f {x : Bool} {A B : Prop} (e : x = false) (h : B) : (x = true → A) ∧ (x = false → B) := ⟨fun q => (by rw [e] at q; cases q), fun _ => h⟩
theorem br_dec {p : Prop} [Decidable p] {A B : Prop} (h : p → A) (h' : ¬ p → B) : (decide p = true → A) ∧ (decide p = false → B) := ⟨fun e => h (of_decide_eq_true e), fun e => h' (of_decide_eq_false e)⟩
theorem br_ndec {p : Prop} [Decidable p] {A B : Prop} (h : ¬ p → A) (h' : p → B) : ((!decide p) = true → A) ∧ ((!decide p) = false → B) := ⟨fun e => h (of_decide_eq_false (by simpa using e)), fun e => h' (of_decide_eq_true (by simpa using e))⟩
theorem br_or {A A' B B' : Prop} (x : Bool) (h : x = true → A) (h' : x = false → B) : (x = true → A) ∧ (x = false → B) := ⟨h, h'⟩
theorem end_ret {d : D} {Q : D → List (Addr × Mu) → Prop} {st : St} (h : Q d st.mu) : KEnd Q (.ret d) st := .inl ⟨d, rfl, h⟩
theorem end_next {Q : D → List (Addr × Mu) → Prop} {st : St} (h : Q .none st.mu) : KEnd Q .next st := .inr ⟨rfl, h⟩
end Mine
namespace Mine
open PySem PySem.W PySem.Calls PyProof.Rows
theorem cq_pure {g : Gl} {c : Ctx} {l cl mu} {f : Value} {n : Nat} {ds : List D} {d : D} {Q : D → St → Prop} (h : ∀ {Q : D → List (Addr × Mu) → Prop}, Q d [] → CallW g n f ds [] Q) (hn : n ≤ c.n) (q : Q d ⟨l, cl, mu⟩) : CallQ g c f ds ⟨l, cl, mu⟩ Q :=
  cq_call .none hn (h fun _ => q)
theorem mulL {a b : Int} (h1 : -(2 ^ 62) < a) (h2 : a < 2 ^ 62) : IntMulOk a b := .of_left (intBits_le_64 (by (first | lia | omega)) (by (first | lia | omega)))
theorem mulR {a b : Int} (h1 : -(2 ^ 62) < b) (h2 : b < 2 ^ 62) : IntMulOk a b := .of_right (intBits_le_64 (by (first | lia | omega)) (by (first | lia | omega)))
theorem small_div {a b : Int} (h1 : -1073741824 < b) (h2 : b < 1073741824) : Builtin.divisionGoesByPylong a b = false := PyProof.noPylong_small (by (first | lia | omega))
end Mine

namespace Mine
open PySem PySem.W PySem.Calls PyProof.Rows
section
variable {g : Gl} {c : Ctx} {st : St} {target : Expr} {body : List Stmt} {a : Addr} {Q : Fl → St → Prop}
theorem fk_next (h : FOR g c target body a st Q) : ForK g c target body a Q .next st := h
theorem fk_cont (h : FOR g c target body a st Q) : ForK g c target body a Q .cont st := h
theorem fk_brk (h : Q .next st) : ForK g c target body a Q .brk st := h
theorem fk_ret {d : D} (h : Q (.ret d) st) : ForK g c target body a Q (.ret d) st := h
end
section
variable {g : Gl} {c : Ctx} {st : St} {Q : D → St → Prop}
theorem cq_eqBool {a b : Bool} (q : Q (.bool (a == b)) st) : CmpQ g c .Eq (.bool a) (.bool b) st Q := by
  rintro X s v₁ v₂ k rfl rfl
  exact PyProof.Rows.eq_bool ⟨.bool (a == b), st, X, k, .refl _ _, rfl, q⟩
end
end Mine
open PySem PySem.W PySem.Calls PyProof.Rows
set_option maxRecDepth 100000
set_option Elab.async false
set_option maxHeartbeats 4000000
set_option linter.unusedVariables false
namespace Mine
/-! what is no longer looked at is let go -/
inductive KDrop (Q : D → List (Addr × Mu) → Prop) (d : D) (mu' : List (Addr × Mu)) : Prop
  | mk (mu₁ : List (Addr × Mu)) (s : mu₁.Sublist mu') (q : Q d mu₁)
theorem CallW.drop {g : Gl} {n : Nat} {f : Value} {ds : List D} {mu : List (Addr × Mu)} {Q : D → List (Addr × Mu) → Prop} (h : CallW g n f ds mu (KDrop Q)) : CallW g n f ds mu Q :=
  fun A X s vs r k a => codeAny_mono (h A X s vs r k a) fun _ _ ⟨v, e, d, mu', X', z⟩ => by
    obtain ⟨mu₁, hs, q⟩ := z.q
    exact ⟨v, e, d, mu₁, X', ⟨z.bk.base, (hs.map (·.1)).nodup z.bk.nodup, fun p hp => z.bk.mine p (hs.subset hp)⟩, z.mv, z.up, z.kept, fun p hp => z.fresh p (hs.subset hp), z.at_, q⟩
section
variable {g : Gl} {c : Ctx} {st : St}
theorem Ok.drop {X : Addr → Prop} {s : Shared} {l cl mu mu'} (k : Ok g c X ⟨l, cl, mu⟩ s) (hs : mu'.Sublist mu) : Ok g c X ⟨l, cl, mu'⟩ s := by
  have hsub : ∀ x ∈ own c ⟨l, cl, mu'⟩, x ∈ own c ⟨l, cl, mu⟩ := fun x hx => by
    unfold own at hx ⊢
    rcases List.mem_cons.mp hx with rfl | hx
    · exact .head _
    · rcases List.mem_append.mp hx with hx | hx
      · exact .tail _ (List.mem_append_left _ hx)
      · exact .tail _ (List.mem_append_right _ ((hs.map (·.1)).subset hx))
  refine ⟨k.cok, k.base, k.kept, k.xc, ?_, fun x hx => k.mine x (hsub x hx), k.names, k.loc, k.cel, fun p hp => k.mu p (hs.subset hp)⟩
  have nd := k.nodup
  have : (own c ⟨l, cl, mu'⟩).Sublist (own c ⟨l, cl, mu⟩) := by
    unfold own
    exact ((List.Sublist.refl _).append (hs.map (·.1))).cons_cons _
  exact this.nodup nd
theorem xw_drop {xs : List Stmt} {l cl mu mu'} {Q : Fl → St → Prop} (hs : mu'.Sublist mu) (h : XW g c xs ⟨l, cl, mu'⟩ Q) : XW g c xs ⟨l, cl, mu⟩ Q := fun X s k => h X s (k.drop hs)
theorem ew_drop {e : Expr} {l cl mu mu'} {Q : D → St → Prop} (hs : mu'.Sublist mu) (h : EW g c e ⟨l, cl, mu'⟩ Q) : EW g c e ⟨l, cl, mu⟩ Q := fun X s k => h X s (k.drop hs)
end
end Mine
namespace Mine
open PySem PySem.W PySem.Calls PyProof.Rows
section
variable {g : Gl} {c : Ctx} {st : St}
theorem Ok.perm {X : Addr → Prop} {s : Shared} {l cl mu mu'} (k : Ok g c X ⟨l, cl, mu⟩ s) (hs : mu.Perm mu') : Ok g c X ⟨l, cl, mu'⟩ s := by
  have hp : (own c ⟨l, cl, mu⟩).Perm (own c ⟨l, cl, mu'⟩) := by
    unfold own
    exact ((List.Perm.refl _).append (hs.map (·.1))).cons _
  exact ⟨k.cok, k.base, k.kept, k.xc, hp.nodup_iff.mp k.nodup, fun x hx => k.mine x (hp.mem_iff.mpr hx), k.names, k.loc, k.cel, fun p hp => k.mu p (hs.mem_iff.mpr hp)⟩
/-- some mutables are handed on and put back in their places -/
inductive ExP : List (Addr × Mu) → List (Addr × Mu) → List (Addr × Mu) → List (Addr × Mu) → Prop
  | none {l} : ExP l [] [] l
  | here {p p' l ps ps' l'} : ExP l ps ps' l' → ExP (p :: l) (p :: ps) (p' :: ps') (p' :: l')
  | skip {p l ps ps' l'} : ExP l ps ps' l' → ExP (p :: l) ps ps' (p :: l')
theorem ExP.ex {l ps ps' l' : List (Addr × Mu)} (e : ExP l ps ps' l') : ∃ rest, Ex l ps rest ∧ (ps' ++ rest).Perm l' := by
  induction e with
  | none => exact ⟨_, .none, .refl _⟩
  | here _ ih =>
    obtain ⟨rest, a, b⟩ := ih
    exact ⟨rest, .here a, b.cons _⟩
  | skip _ ih =>
    obtain ⟨rest, a, b⟩ := ih
    exact ⟨_, .skip a, List.perm_middle.trans (b.cons _)⟩
theorem cq_in {l cl mu mu₂ ps ps'} {f : Value} {n : Nat} {ds : List D} {d : D} {Q : D → St → Prop} (e : ExP mu ps ps' mu₂) (hn : n ≤ c.n) (h : ∀ {Q : D → List (Addr × Mu) → Prop}, Q d ps' → CallW g n f ds ps Q) (q : Q d ⟨l, cl, mu₂⟩) : CallQ g c f ds ⟨l, cl, mu⟩ Q := fun X s vs k a => by
  obtain ⟨rest, ex, pm⟩ := e.ex
  refine wpAny_mono (cq_call (Q := fun d' st' => d' = d ∧ st' = ⟨l, cl, ps' ++ rest⟩) ex hn (h fun _ => ⟨rfl, rfl⟩) X s vs k a) (fun v s' h' => ?_) fun _ _ z => z
  obtain ⟨_, _, X', k', m', a', rfl, rfl⟩ := h'
  exact ⟨_, _, X', k'.perm pm, m', a', q⟩
theorem cq_in' {l cl mu mu₂ ps ps'} {f : Value} {n : Nat} {ds : List D} {d : D} {Q : D → St → Prop} (e : ExP mu ps ps' mu₂) (h : ∀ {Q : D → List (Addr × Mu) → Prop}, Q d ps' → CallW g n f ds ps Q) (hn : n ≤ c.n) (q : Q d ⟨l, cl, mu₂⟩) : CallQ g c f ds ⟨l, cl, mu⟩ Q := cq_in e hn h q
end
end Mine
open PySem PySem.W PySem.Calls PyProof.Rows
set_option maxRecDepth 100000
set_option Elab.async false
set_option maxHeartbeats 4000000
set_option linter.unusedVariables false
namespace Mine
/-! loops over lists of any length -/
theorem for_fold {g : Gl} {c : Ctx} {target : Expr} {body : List Stmt} {a : Addr} {Q : Fl → St → Prop} {α σ : Type} {ok : α → Prop} (f : σ → α → σ) (mk : Nat → List α → σ → St) (zf : σ)
    (hs : ∀ i x xs z, ok x → FOR g c target body a (mk (i + 1) xs (f z x)) Q → FOR g c target body a (mk i (x :: xs) z) Q) (hn : ∀ i, FOR g c target body a (mk i [] zf) Q) :
    ∀ xs i z, (∀ x ∈ xs, ok x) → xs.foldl f z = zf → FOR g c target body a (mk i xs z) Q
  | [], i, z, _, e => by
    have e' : z = zf := e
    rw [e']; exact hn i
  | x :: xs, i, z, ho, e => hs i x xs z (ho x (.head _)) (for_fold f mk zf hs hn xs (i + 1) (f z x) (fun y hy => ho y (.tail _ hy)) e)
end Mine
open PySem PySem.W PySem.Calls PyProof.Rows
set_option maxRecDepth 100000
set_option Elab.async false
set_option maxHeartbeats 4000000
set_option linter.unusedVariables false
namespace Mine
/-! comprehensions whose list is at once frozen -/
section
variable {g : Gl} {c : Ctx} {st : St} {elt target iter : Expr} {ifs : List Expr} {scope : Scope} {pos : Pos}
inductive KCd (acc : Addr) (l : List (Str × Option D)) (cl cc : List (Str × Addr × Option D)) (Q : D → St → Prop) (st₃ : St) : Prop
  | mk (l₃ : List (Str × Option D)) (ds' : List D) (mu' : List (Addr × Mu)) (e : st₃ = ⟨l₃, cc, (acc, .lst ds') :: mu'⟩) (q : Q (.lst ds') ⟨l, cl, mu'⟩)
inductive KLc (g : Gl) (c : Ctx) (elt target iter : Expr) (ifs : List Expr) (scope : Scope) (pos : Pos) (Q : D → St → Prop) (d : D) (st : St) : Prop
  | mk (ds : List D) (l : List (Str × Option D)) (cl : List (Str × Addr × Option D)) (mu : List (Addr × Mu)) (lc : List (Str × Option D)) (cc : List (Str × Addr × Option D)) (e : d = .lst ds) (e' : st = ⟨l, cl, mu⟩) (hk : ScK cl scope.names lc cc)
    (h : ∀ it acc c', c'.env.scope = relS scope → c'.n = c.n → ¬ c'.Xc it → COMP g c' elt target iter ifs scope pos it acc ⟨lc, cc, (acc, .lst []) :: (it, .itL 0 ds) :: mu⟩ (KCd acc l cl cc Q))
inductive KRc (g : Gl) (c : Ctx) (elt target iter : Expr) (ifs : List Expr) (scope : Scope) (pos : Pos) (Q : D → St → Prop) (d : D) (st : St) : Prop
  | mk (x y z : Int) (l : List (Str × Option D)) (cl : List (Str × Addr × Option D)) (mu : List (Addr × Mu)) (lc : List (Str × Option D)) (cc : List (Str × Addr × Option D)) (e : d = .rng x y z) (hz : Builtin.Range.small x y z = true) (e' : st = ⟨l, cl, mu⟩) (hk : ScK cl scope.names lc cc)
    (h : ∀ it acc c', c'.env.scope = relS scope → c'.n = c.n → ¬ c'.Xc it → COMP g c' elt target iter ifs scope pos it acc ⟨lc, cc, (acc, .lst []) :: (it, .itR x (Builtin.Range.rangeSize x y z) z) :: mu⟩ (KCd acc l cl cc Q))
theorem ew_lcomp {l₀ cl₀ mu₀} {Q : D → St → Prop} (hn : notSetE iter = true) (hsc : compSc scope = true) (hfr : freeIn cl₀ scope.names = true)
    (h : EW g c iter ⟨l₀, cl₀, mu₀⟩ (KLc g c elt target iter ifs scope pos Q)) :
    EW g c (.ListComp elt [⟨target, iter, ifs, 0⟩] scope pos) ⟨l₀, cl₀, mu₀⟩ Q := by
  refine tw_frz (ew_mcomp hn hsc hfr (h.mono ?_))
  rintro d st₁ ⟨ds, l, cl, mu, lc, cc, rfl, rfl, hk, h⟩
  refine iw_list fun it hit => ⟨hit, _, .here, rfl, lc, cc, hk, fun acc hacc c' hs hc hx hx' => ?_⟩
  refine fun X s k => codeAny_mono (h it acc c' hs hc hx' X s k) fun r s' ⟨f, e, st', X', k', m', l₃, ds', mu', e', q⟩ => ⟨f, e, st', X', k', m', ?_⟩
  subst e'
  exact ⟨rfl, acc, _, _, _, .here, hacc, .one (.lst rfl), q⟩
theorem ew_rcomp {l₀ cl₀ mu₀} {Q : D → St → Prop} (hn : notSetE iter = true) (hsc : compSc scope = true) (hfr : freeIn cl₀ scope.names = true)
    (h : EW g c iter ⟨l₀, cl₀, mu₀⟩ (KRc g c elt target iter ifs scope pos Q)) :
    EW g c (.ListComp elt [⟨target, iter, ifs, 0⟩] scope pos) ⟨l₀, cl₀, mu₀⟩ Q := by
  refine tw_frz (ew_mcomp hn hsc hfr (h.mono ?_))
  rintro d st₁ ⟨x, y, z, l, cl, mu, lc, cc, rfl, hsm, rfl, hk, h⟩
  refine iw_rng hsm fun it hit => ⟨hit, _, .here, rfl, lc, cc, hk, fun acc hacc c' hs hc hx hx' => ?_⟩
  refine fun X s k => codeAny_mono (h it acc c' hs hc hx' X s k) fun r s' ⟨f, e, st', X', k', m', l₃, ds', mu', e', q⟩ => ⟨f, e, st', X', k', m', ?_⟩
  subst e'
  exact ⟨rfl, acc, _, _, _, .here, hacc, .one (.lst rfl), q⟩
variable {it acc : Addr} {l : List (Str × Option D)} {cl : List (Str × Addr × Option D)} {mu : List (Addr × Mu)} {es ds : List D} {d : D} {i : Nat} {Q : St → Prop}
/-- what is appended -/
inductive Put (g : Gl) (c : Ctx) (elt target iter : Expr) (ifs : List Expr) (scope : Scope) (pos : Pos) (it acc : Addr) (es : List D) (cl : List (Str × Addr × Option D)) (Q : St → Prop) (d' : D) (st₄ : St) : Prop
  | mk (l₄ : List (Str × Option D)) (mu₄ : List (Addr × Mu)) (e : st₄ = ⟨l₄, cl, (acc, .lst es) :: mu₄⟩) (h : COMP g c elt target iter ifs scope pos it acc ⟨l₄, cl, (acc, .lst (es ++ [d'])) :: mu₄⟩ Q)
noncomputable abbrev KCo (g : Gl) (c : Ctx) (elt target iter : Expr) (ifs : List Expr) (scope : Scope) (pos : Pos) (it acc : Addr) (Q : St → Prop) : St → Prop := fun st => COMP g c elt target iter ifs scope pos it acc st Q
theorem ex_put {l₄ : List (Str × Option D)} {mu₄ : List (Addr × Mu)} {d' : D} (h : COMP g c elt target iter ifs scope pos it acc ⟨l₄, cl, (acc, .lst (es ++ [d'])) :: mu₄⟩ Q) : Put g c elt target iter ifs scope pos it acc es cl Q d' ⟨l₄, cl, (acc, .lst es) :: mu₄⟩ := ⟨_, _, rfl, h⟩
theorem ex_cd {l₃ l : List (Str × Option D)} {cc : List (Str × Addr × Option D)} {mu' : List (Addr × Mu)} {Q : D → St → Prop} (q : Q (.lst ds) ⟨l, cl, mu'⟩) : KCd acc l cl cc Q ⟨l₃, cc, (acc, .lst ds) :: mu'⟩ := ⟨_, _, _, rfl, q⟩
theorem put_ok {d' : D} {st₄ : St} (hz : es.length ≤ 2 ^ 24) (h : Put g c elt target iter ifs scope pos it acc es cl Q d' st₄) : CallQ g c (.builtin "list.append") [.mlst acc, d'] st₄ fun _ st₅ => COMP g c elt target iter ifs scope pos it acc st₅ Q := by
  obtain ⟨l₄, mu₄, rfl, h⟩ := h
  exact cq_append .here hz .here h
theorem co_l (ht : nameTarget target = true) (hz : es.length ≤ 2 ^ 24) (h : ASW g c target d ⟨l, cl, (acc, .lst es) :: (it, .itL (i + 1) ds) :: mu⟩ (KE g c elt (Put g c elt target iter [] scope pos it acc es cl Q))) :
    COMP g c elt target iter [] scope pos it acc ⟨l, cl, (acc, .lst es) :: (it, .itL i (d :: ds)) :: mu⟩ Q :=
  comp_step (nx_list ht (.there .here) (.there .here) fun X s v k a => wpAny_mono (h X s v k a) (fun _ _ ⟨st', X', k', m', q⟩ => ⟨st', X', k', m', fun _ => q.mono fun _ _ z => put_ok hz z, nofun⟩) fun _ _ z => z)
theorem co_lt {t : Expr} (ht : nameTarget target = true) (hz : es.length ≤ 2 ^ 24) (h : ASW g c target d ⟨l, cl, (acc, .lst es) :: (it, .itL (i + 1) ds) :: mu⟩ fun st₂ => BW g c t st₂ (KIf (KE g c elt (Put g c elt target iter [t] scope pos it acc es cl Q)) (KCo g c elt target iter [t] scope pos it acc Q))) :
    COMP g c elt target iter [t] scope pos it acc ⟨l, cl, (acc, .lst es) :: (it, .itL i (d :: ds)) :: mu⟩ Q :=
  comp_step (nx_list ht (.there .here) (.there .here) fun X s v k a => wpAny_mono (h X s v k a) (fun _ _ ⟨st', X', k', m', q⟩ => ⟨st', X', k', m', q.mono fun b _ z => ⟨fun e => (z.1 e).mono fun _ _ z => put_ok hz z, z.2⟩⟩) fun _ _ z => z)
theorem co_lend (hx : ¬ c.Xc it) (q : Q ⟨l, cl, (acc, .lst es) :: mu⟩) : COMP g c elt target iter ifs scope pos it acc ⟨l, cl, (acc, .lst es) :: (it, .itL i []) :: mu⟩ Q :=
  comp_step (nx_list_end (.there .here) hx q)
theorem co_r {x left z : Int} (ht : nameTarget target = true) (hl : 0 < left) (hz : es.length ≤ 2 ^ 24) (h : ASW g c target (.int x) ⟨l, cl, (acc, .lst es) :: (it, .itR (x + z) (left - 1) z) :: mu⟩ (KE g c elt (Put g c elt target iter [] scope pos it acc es cl Q))) :
    COMP g c elt target iter [] scope pos it acc ⟨l, cl, (acc, .lst es) :: (it, .itR x left z) :: mu⟩ Q :=
  comp_step (nx_rng ht (.there .here) hl (.there .here) fun X s v k a => wpAny_mono (h X s v k a) (fun _ _ ⟨st', X', k', m', q⟩ => ⟨st', X', k', m', fun _ => q.mono fun _ _ z => put_ok hz z, nofun⟩) fun _ _ z => z)
theorem co_rend {x left z : Int} (hl : left ≤ 0) (hx : ¬ c.Xc it) (q : Q ⟨l, cl, (acc, .lst es) :: mu⟩) : COMP g c elt target iter ifs scope pos it acc ⟨l, cl, (acc, .lst es) :: (it, .itR x left z) :: mu⟩ Q :=
  comp_step (nx_rng_end hl (.there .here) hx q)
/-- loops with an invariant -/
theorem for_inv {target : Expr} {body : List Stmt} {a : Addr} {Q : Fl → St → Prop} {α σ : Type} (mk : List α → σ → St) (I : List α → σ → Prop)
    (hs : ∀ x xs z, I (x :: xs) z → (∀ z', I xs z' → FOR g c target body a (mk xs z') Q) → FOR g c target body a (mk (x :: xs) z) Q) (hn : ∀ z, I [] z → FOR g c target body a (mk [] z) Q) :
    ∀ xs z, I xs z → FOR g c target body a (mk xs z) Q
  | [], z, i => hn z i
  | x :: xs, z, i => hs x xs z i fun z' i' => for_inv mk I hs hn xs z' i'
theorem comp_inv {a : Addr} {α σ : Type} (mk : List α → σ → St) (I : List α → σ → Prop)
    (hs : ∀ x xs z, I (x :: xs) z → (∀ z', I xs z' → COMP g c elt target iter ifs scope pos a acc (mk xs z') Q) → COMP g c elt target iter ifs scope pos a acc (mk (x :: xs) z) Q) (hn : ∀ z, I [] z → COMP g c elt target iter ifs scope pos a acc (mk [] z) Q) :
    ∀ xs z, I xs z → COMP g c elt target iter ifs scope pos a acc (mk xs z) Q
  | [], z, i => hn z i
  | x :: xs, z, i => hs x xs z i fun z' i' => comp_inv mk I hs hn xs z' i'
/-- ways that meet -/
theorem xw_same {x : Stmt} {xs : List Stmt} {Q : Fl → St → Prop} (h : XW1 g c x st fun f s => f = .next ∧ s = st) (k : XW g c xs st Q) : XW g c (x :: xs) st Q :=
  xw_cons (xw_mono h (by rintro _ _ ⟨rfl, rfl⟩; exact k))
theorem xw_join {x : Stmt} {xs : List Stmt} {Q : Fl → St → Prop} (st' : St) (h : XW1 g c x st fun f s => f = .next ∧ s = st') (k : XW g c xs st' Q) : XW g c (x :: xs) st Q :=
  xw_cons (xw_mono h (by rintro _ _ ⟨rfl, rfl⟩; exact k))
theorem xw_meet {x : Stmt} {xs : List Stmt} {Q : Fl → St → Prop} (P : St → Prop) (h : XW1 g c x st fun f s => f = .next ∧ P s) (k : ∀ s, P s → XW g c xs s Q) : XW g c (x :: xs) st Q :=
  xw_cons (xw_mono h (by rintro _ s ⟨rfl, p⟩; exact k s p))
theorem xw_retz {e : Expr} {pos : Pos} {Q : Fl → St → Prop} (h : EW g c e st (KFrz c (KRet Q))) : XW1 g c (.Return (some e) pos) st Q :=
  xw_ret (tw_frz h)
end
end Mine
open PySem PySem.W PySem.Calls PyProof.Rows
set_option maxRecDepth 100000
set_option Elab.async false
set_option linter.unusedVariables false
namespace Mine
section
variable {g : Gl} {c : Ctx} {st : St} {Q : D → St → Prop}
theorem seqIdx {i : Int} {n : Nat} (h0 : 0 ≤ i) (h : i < n) : seqIndex? i n = some i.toNat := by
  unfold seqIndex?
  have h1 : ¬ i < 0 := by (first | lia | omega)
  simp only [h1, if_false]
  rw [if_pos (by simp only [Bool.and_eq_true, decide_eq_true_eq]; (first | lia | omega))]
theorem lit_ok {ds : List D} {n : Nat} {d : D} (hz : Nat.ble n 100 = true) (hd : ds[n]? = some d) : inI ((OfNat.ofNat n : Int)) = true ∧ seqIndex? ((OfNat.ofNat n : Int)) ds.length = some n := by
  have h1 : n ≤ 100 := Nat.le_of_ble_eq_true hz
  have h2 := (List.getElem?_eq_some_iff.mp hd).1
  have e : ((OfNat.ofNat n : Int)) = (n : Int) := rfl
  rw [e]
  refine ⟨by simp only [inI, Bool.and_eq_true, decide_eq_true_eq]; (first | lia | omega), ?_⟩
  rw [seqIdx (by (first | lia | omega)) (by (first | lia | omega)), Int.toNat_natCast]
variable {value slice : Expr} {ds : List D} {n : Nat} {d : D} {a : Addr}
theorem it_litL (hs : plainSlice slice = true) (hz : Nat.ble n 100 = true) (hd : ds[n]? = some d) (q : Q d st) : ItQ g c value slice (.lst ds) (.int (OfNat.ofNat n)) st Q := it_lst hs (lit_ok hz hd).1 (lit_ok hz hd).2 hd q
theorem it_litT (hs : plainSlice slice = true) (hz : Nat.ble n 100 = true) (hd : ds[n]? = some d) (q : Q d st) : ItQ g c value slice (.tup ds) (.int (OfNat.ofNat n)) st Q := it_tup hs (lit_ok hz hd).1 (lit_ok hz hd).2 hd q
theorem it_litM (hm : MLk a (.lst ds) st.mu) (hs : plainSlice slice = true) (hz : Nat.ble n 100 = true) (hd : ds[n]? = some d) (q : Q d st) : ItQ g c value slice (.mlst a) (.int (OfNat.ofNat n)) st Q := it_mlst hm hs (lit_ok hz hd).1 (lit_ok hz hd).2 hd q
end
end Mine
open PySem PySem.W PySem.Calls PyProof.Rows
set_option maxRecDepth 100000
set_option Elab.async false
set_option linter.unusedVariables false
namespace Mine
section
variable {g : Gl} {c : Ctx} {st : St} {elt target : Expr} {ifs : List Expr} {scope : Scope} {pos p p' : Pos} {es : List Expr}
noncomputable abbrev rangeE (p : Pos) (es : List Expr) (p' : Pos) : Expr := .Call (.Name (Str.ofString "range") p) es [] p'
theorem size1 {n : Nat} : Builtin.Range.rangeSize 0 n 1 = n := by rw [rangeSize_one]; split <;> (first | lia | omega)
theorem small1 {n : Nat} (h : n ≤ 1000) : Builtin.Range.small 0 n 1 = true := small_one (by (first | lia | omega)) (by (first | lia | omega)) (by (first | lia | omega)) (by (first | lia | omega))
inductive KR1 (Q : D → St → Prop) (d : D) (st : St) : Prop
  | mk (n : Int) (e : d = .int n) (q : Q (.rng 0 n 1) st)
inductive KCm (acc : Addr) (l : List (Str × Option D)) (cl cc : List (Str × Addr × Option D)) (Q : D → St → Prop) (st₃ : St) : Prop
  | mk (l₃ : List (Str × Option D)) (mu' : List (Addr × Mu)) (e : st₃ = ⟨l₃, cc, mu'⟩) (q : Q (.mlst acc) ⟨l, cl, mu'⟩)
theorem ex_cm {acc : Addr} {l₃ l : List (Str × Option D)} {cl cc : List (Str × Addr × Option D)} {mu' : List (Addr × Mu)} {Q : D → St → Prop} (q : Q (.mlst acc) ⟨l, cl, mu'⟩) : KCm acc l cl cc Q ⟨l₃, cc, mu'⟩ := ⟨_, _, rfl, q⟩
/-- K: what is asked of the list made -/
inductive KRg (K : Addr → List (Str × Option D) → List (Str × Addr × Option D) → List (Str × Addr × Option D) → St → Prop) (g : Gl) (c : Ctx) (elt target iter : Expr) (ifs : List Expr) (scope : Scope) (pos : Pos) (d : D) (st : St) : Prop
  | mk (n : Nat) (l : List (Str × Option D)) (cl : List (Str × Addr × Option D)) (mu : List (Addr × Mu)) (lc : List (Str × Option D)) (cc : List (Str × Addr × Option D)) (e : d = .int n) (hn : n ≤ 1000) (e' : st = ⟨l, cl, mu⟩) (hk : ScK cl scope.names lc cc)
    (h : ∀ it acc c', ¬ c.Xc acc → c'.env.scope = relS scope → c'.n = c.n → ¬ c'.Xc it → COMP g c' elt target iter ifs scope pos it acc ⟨lc, cc, (acc, .lst []) :: (it, .itR 0 n 1) :: mu⟩ (K acc l cl cc))
noncomputable abbrev KCmQ (Q : D → St → Prop) (acc : Addr) (l : List (Str × Option D)) (cl cc : List (Str × Addr × Option D)) : St → Prop := KCm acc l cl cc Q
noncomputable abbrev KCdQ (Q : D → St → Prop) (acc : Addr) (l : List (Str × Option D)) (cl cc : List (Str × Addr × Option D)) : St → Prop := KCd acc l cl cc Q
theorem ew_range1 {e : Expr} {Q : D → St → Prop} (hr : c.env.kindOf (Str.ofString "range") = some .globalImplicit) (he : notStar e = true) (h : EW g c e st (KR1 Q)) : EW g c (rangeE p [e] p') st Q :=
  ew_call (by simp [noStars, he]) (nv_range.rule hr ⟨_, rfl, rfl, lw_cons he (h.mono fun d st₁ ⟨n, e, q⟩ => lw_nil (e ▸ cq_range1 q))⟩)
/-- over range(n), its list kept mutable -/
theorem ew_rcM {e : Expr} {l₀ cl₀ mu₀} {Q : D → St → Prop} (hr : c.env.kindOf (Str.ofString "range") = some .globalImplicit) (he : notStar e = true) (hsc : compSc scope = true) (hfr : freeIn cl₀ scope.names = true)
    (h : EW g c e ⟨l₀, cl₀, mu₀⟩ (KRg (KCmQ Q) g c elt target (rangeE p [e] p') ifs scope pos)) :
    EW g c (.ListComp elt [⟨target, rangeE p [e] p', ifs, 0⟩] scope pos) ⟨l₀, cl₀, mu₀⟩ Q := by
  refine ew_mcomp rfl hsc hfr (ew_range1 hr he (h.mono ?_))
  rintro d st₁ ⟨n, l, cl, mu, lc, cc, rfl, hn, rfl, hk, h⟩
  refine ⟨n, rfl, iw_rng (small1 hn) fun it hit => ⟨hit, _, .here, rfl, lc, cc, hk, fun acc hacc c' hs hc hx hx' => ?_⟩⟩
  rw [size1]
  refine fun X s k => codeAny_mono (h it acc c' hacc hs hc hx' X s k) fun r s' ⟨f, e, st', X', k', m', l₃, mu', e', q⟩ => ⟨f, e, st', X', k', m', ?_⟩
  subst e'
  exact ⟨rfl, q⟩
/-- and frozen -/
theorem ew_rc {e : Expr} {l₀ cl₀ mu₀} {Q : D → St → Prop} (hr : c.env.kindOf (Str.ofString "range") = some .globalImplicit) (he : notStar e = true) (hsc : compSc scope = true) (hfr : freeIn cl₀ scope.names = true)
    (h : EW g c e ⟨l₀, cl₀, mu₀⟩ (KRg (KCdQ Q) g c elt target (rangeE p [e] p') ifs scope pos)) :
    EW g c (.ListComp elt [⟨target, rangeE p [e] p', ifs, 0⟩] scope pos) ⟨l₀, cl₀, mu₀⟩ Q := by
  refine tw_frz (ew_rcM hr he hsc hfr (h.mono ?_))
  rintro d st₁ ⟨n, l, cl, mu, lc, cc, e1, e2, e3, hk, h⟩
  refine ⟨n, l, cl, mu, lc, cc, e1, e2, e3, hk, fun it acc c' hacc hs hc hx' => ?_⟩
  refine fun X s k => codeAny_mono (h it acc c' hacc hs hc hx' X s k) fun r s' ⟨f, e, st', X', k', m', l₃, ds', mu', e', q⟩ => ⟨f, e, st', X', k', m', l₃, _, e', acc, _, _, _, .here, hacc, .one (.lst rfl), q⟩
end
end Mine
open PySem PySem.W PySem.Calls PyProof.Rows
set_option maxRecDepth 100000
set_option Elab.async false
set_option maxHeartbeats 4000000
set_option linter.unusedVariables false
set_option linter.unusedSimpArgs false
namespace Mine
local macro_rules | `(tactic| dl_mem) => `(tactic| focus ((with_reducible constructor); (try dl_mem); done))
local macro_rules | `(tactic| cb_eq) => `(tactic| repeat constructor)
local macro_rules | `(tactic| any_norm) => `(tactic| first | (exfalso; lia) | skip)
local macro_rules | `(tactic| cell_enter) => `(tactic| repeat (first | (apply ScK.free; dl_mem) | constructor))
local macro_rules | `(tactic| cell_eq) => `(tactic| with_reducible first | (apply NV0.ok; constructor) | (apply NV1.ok; constructor) | (apply NV2.ok; constructor) | (apply NV3.ok; constructor) | (apply NV4.ok; constructor) | (apply NV5.ok; constructor) | (apply NV6.ok; constructor) | (apply NV7.ok; constructor) | (apply NV8.ok; constructor) | (apply NV9.ok; constructor) | (apply NV10.ok; constructor))
local macro_rules | `(tactic| w_left) => `(tactic| first | with_reducible assumption | (guard_target = _ ≤ Ctx.n _; exact le_of_n (by assumption) rfl) | lia | omega)
local macro_rules | `(tactic| cell_step) => `(tactic| first
  | with_reducible (first
    | (guard_target = EW ..; first
    | (guard_target = EW _ _ (.Name ..) ..; first | refine ew_loc (by dl_mem) ?_ | refine ew_nv (by cell_eq) (kind_of (by assumption) (by kernel_rfl)) ?_ | refine ew_cel (by dl_mem) ?_)
    | (guard_target = EW _ _ (.Constant (.int _) ..) ..; refine ew_int ?_)
    | (guard_target = EW _ _ (.Subscript ..) ..; refine ew_sub ?_)
    | (guard_target = EW _ _ (.BinOp ..) ..; refine ew_bin ?_)
    | (guard_target = EW _ _ (.Call (.Name ..) ..) ..; refine ew_call rfl ?_)
    | (guard_target = EW _ _ (.Attribute ..) ..; refine ew_attr rfl ?_)
    | refine ew_tup rfl ?_
    | refine ew_cmp rfl ?_
    | refine ew_meth rfl rfl rfl rfl ?_
    | refine ew_lst rfl ?_
    | refine ew_if ?_
    | refine ew_neg ?_
    | refine ew_not ?_
    | refine ew_bool ?_
    | refine ew_boolop ?_
    | refine ew_none ?_
    | refine ew_lcomp rfl (by kernel_rfl) (by kernel_rfl) ?_
    | refine compareChain_two rfl rfl ?_)
    | (guard_target = LW ..; first | refine lw_cons rfl ?_ | refine lw_nil ?_)
    | (guard_target = KCallF ..; refine ex_call (by kernel_rfl) ?_)
    | (guard_target = Kont ..; first | refine ko_next ?_ | refine ko_ret ?_)
    | (guard_target = XW ..; first | refine xw_cons ?_ | refine xw_nil ?_)
    | (guard_target = GetQ ..; first | refine gq_own (by kernel_rfl) (by kernel_rfl) (by dl_mem) rfl ?_ | refine gq_mown (by kernel_rfl) (by kernel_rfl) (by dl_mem) (by dl_mem) rfl ?_ | refine gq_clsInt (by kernel_rfl) rfl (by kernel_rfl) (by kernel_rfl) (by kernel_rfl) ?_)
    | (guard_target = XW1 ..; first | refine xw_assign rfl ?_ | refine xw_if ?_ | refine xw_ret ?_ | refine xw_expr rfl ?_ | refine xw_for rfl ?_ | refine xw_asg rfl rfl ?_ | refine xw_augAttr ?_ | refine xw_three rfl rfl (by kernel_rfl) rfl rfl rfl (by decide +kernel) (by decide +kernel) (by dl_mem) (by dl_mem) (by dl_mem) ?_ | refine xw_two rfl (by kernel_rfl) rfl rfl (by decide +kernel) (by decide +kernel) (by dl_mem) (by dl_mem) ?_ | refine xw_unpack' rfl (by kernel_rfl) ?_)
    | (guard_target = KSto ..; first | refine ex_sto (by dl_mem) ?_ | refine ex_stoc (by dl_mem) ?_)
    | (guard_target = BinQ ..; first | refine bq_add ?_ | refine bq_sub ?_ | refine bq_mul (by first | exact mulL (by w_left) (by w_left) | exact mulR (by w_left) (by w_left)) ?_ | refine bq_fdiv (by w_left) (small_div (by w_left) (by w_left)) ?_ | refine bq_mod (by w_left) ?_)
    | (guard_target = ItQ ..; first | refine it_litT rfl rfl rfl ?_ | refine it_litL rfl rfl rfl ?_ | refine it_litM (by dl_mem; done) rfl rfl rfl ?_)
    | (guard_target = BW ..; first | refine bw_cmp rfl ?_ | refine bw_bool ?_ | refine bw_not ?_ | refine bw_chain rfl rfl ?_ | refine bw_val rfl ?_)
    | (guard_target = KBool ..; refine ex_b ?_)
    | (guard_target = CallQ _ _ (.builtin _) ..; first | refine cq_isInt ?_ | refine cq_isBool ?_ | refine cq_max ?_ | refine cq_min ?_ | refine cq_abs ?_)
    | (guard_target = ASW ..; first | refine as_name ?_ | refine as_tup rfl rfl ?_ | refine as_attr ?_ | refine as_sub ?_)
    | (guard_target = MeQ ..; first | refine me_list slot_list_append rfl (by dl_mem) ?_ | refine me_minst (by kernel_rfl) rfl (by kernel_rfl) (by kernel_rfl) (by dl_mem) (by kernel_rfl) ?_)
    | (guard_target = SetQ ..; refine sq_minst (by kernel_rfl) (by kernel_rfl) (by dl_mem) (by first | (apply DPut.up; dl_mem) | (apply DPut.new; kernel_rfl)) rfl (by dl_mem) ?_)
    | (guard_target = ASL ..; first | refine as_cons rfl ?_ | refine as_nil ?_)
    | (guard_target = COMP ..; first | refine co_l rfl (by simp) ?_ | refine co_lend (by assumption) ?_))
  | (guard_target = CmpQ ..; first | (guard_target = CmpQ _ _ _ (.int _) (.int _) ..; refine cq_rel rfl ?_) | with_reducible (first | refine cq_is rfl ?_ | refine cq_isNot rfl ?_ | refine cq_eqBool ?_))
  | (guard_target = KIf ..; first | with_reducible (first | refine br_t rfl ?_ | refine br_f rfl ?_) | ((with_reducible (first | refine br_dec (fun _ => ?_) (fun _ => ?_) | refine br_ndec (fun _ => ?_) (fun _ => ?_))) <;> any_norm))
  | with_reducible (first
    | (guard_target = FOR ..; first | refine for_step (nx_tup rfl (by dl_mem) (by dl_mem) ?_) | refine for_step (nx_tup_end (by dl_mem) (by assumption) ?_))
    | apply at_and
    | apply at_or
    | apply at_and_nil
    | apply at_or_nil
    | apply end_ret
    | apply end_next
    | apply bo_and
    | apply bo_one
    | apply fk_next
    | apply fk_ret
    | apply ex_neg
    | apply ex_aug
    | apply ex_put
    | apply ex_cd
    | apply ex_cm
    | refine ⟨rfl, ?_⟩
    | refine iw_tup (fun a _ => ?_)
    | refine iw_list (fun a _ => ?_)
    | (apply ex_two; dl_mem; dl_mem)
    | (apply ex_three; dl_mem; dl_mem; dl_mem))
  | (guard_target = KLc ..; refine ⟨_, _, _, _, _, _, rfl, rfl, (by cell_enter), (fun it acc c' hs' hc' hit => ?_)⟩)
  | fail "no step")
section
noncomputable def rnd (n b : Int) : Int := if n < 0 then -((b - 2 * n).fdiv (2 * b)) else (2 * n + b).fdiv (2 * b)
noncomputable def badr (e t : Int) : Int := if e ≤ 7230584 then (e * 297).fdiv t else if 1663497 ≤ t then e.fdiv (t.fdiv 297) else e
noncomputable def bad (e t : Int) : Int := if e = 0 then 0 else if t ≤ 0 then 10000 else if 1290 < badr e t then 10000 else (badr e t * badr e t * badr e t + 131072).fdiv 262144
theorem c_is_whole {g : Gl} {v lo hi : Int} {mu : List (Addr × Mu)} {Q : D → List (Addr × Mu) → Prop} (h1 : lo ≤ v) (h2 : v ≤ hi) (q : Q (.bool true) mu) : CallW g 1 (.ref 77) [.int v, .int lo, .int hi] mu Q := by
  refine callW_def (n := 0) (dds := []) (dvs := []) rfl (by kernel_rfl) (by kernel_rfl) (fun _ _ => rfl) ?_ ?_
  · intro X s vs b a
    obtain ⟨v0, r, rfl, a0, a⟩ := a
    obtain ⟨v1, r, rfl, a1, a⟩ := a
    obtain ⟨v2, r, rfl, a2, a⟩ := a
    obtain rfl : r = [] := a
    exact BindsTo.of_eq rfl
  · intro c hsc hcn
    apply Exists.intro
    apply Exists.intro
    apply And.intro
    · cb_eq
    repeat' cell_step
    rwa [decide_eq_true h2]

theorem c_check_whole {g : Gl} {v : Int} {mu : List (Addr × Mu)} {Q : D → List (Addr × Mu) → Prop}  (q : Q (.int v) mu) : CallW g 1 (.ref 84) [.int v] mu Q := by
  refine callW_def (n := 0) (dds := []) (dvs := []) rfl (by kernel_rfl) (by kernel_rfl) (fun _ _ => rfl) ?_ ?_
  · intro X s vs b a
    obtain ⟨v0, r, rfl, a0, a⟩ := a
    obtain rfl : r = [] := a
    exact BindsTo.of_eq rfl
  · intro c hsc hcn
    apply Exists.intro
    apply Exists.intro
    apply And.intro
    · cb_eq
    repeat' cell_step
    assumption

theorem c_check_number {g : Gl} {v : Int} {mu : List (Addr × Mu)} {Q : D → List (Addr × Mu) → Prop} (h1 : -2147483647 ≤ v) (h2 : v ≤ 2147483647) (q : Q (.int v) mu) : CallW g 2 (.ref 91) [.int v] mu Q := by
  refine callW_def (n := 1) (dds := []) (dvs := []) rfl (by kernel_rfl) (by kernel_rfl) (fun _ _ => rfl) ?_ ?_
  · intro X s vs b a
    obtain ⟨v0, r, rfl, a0, a⟩ := a
    obtain rfl : r = [] := a
    exact BindsTo.of_eq rfl
  · intro c hsc hcn
    apply Exists.intro
    apply Exists.intro
    apply And.intro
    · cb_eq
    repeat' cell_step
    refine cq_pure c_check_whole (by w_left) ?_
    repeat' cell_step
    assumption

theorem c_check_dimen {g : Gl} {v : Int} {mu : List (Addr × Mu)} {Q : D → List (Addr × Mu) → Prop} (h1 : -1073741823 ≤ v) (h2 : v ≤ 1073741823) (q : Q (.int v) mu) : CallW g 2 (.ref 98) [.int v] mu Q := by
  refine callW_def (n := 1) (dds := []) (dvs := []) rfl (by kernel_rfl) (by kernel_rfl) (fun _ _ => rfl) ?_ ?_
  · intro X s vs b a
    obtain ⟨v0, r, rfl, a0, a⟩ := a
    obtain rfl : r = [] := a
    exact BindsTo.of_eq rfl
  · intro c hsc hcn
    apply Exists.intro
    apply Exists.intro
    apply And.intro
    · cb_eq
    repeat' cell_step
    refine cq_pure c_check_whole (by w_left) ?_
    repeat' cell_step
    assumption

theorem c_rounded {g : Gl} {v b : Int} {mu : List (Addr × Mu)} {Q : D → List (Addr × Mu) → Prop} (h1 : 0 < b) (h2 : b < 268435456) (q : Q (.int (rnd v b)) mu) : CallW g 1 (.ref 105) [.int v, .int b] mu Q := by
  refine callW_def (n := 0) (dds := []) (dvs := []) rfl (by kernel_rfl) (by kernel_rfl) (fun _ _ => rfl) ?_ ?_
  · intro X s vs b a
    obtain ⟨v0, r, rfl, a0, a⟩ := a
    obtain ⟨v1, r, rfl, a1, a⟩ := a
    obtain rfl : r = [] := a
    exact BindsTo.of_eq rfl
  · intro c hsc hcn
    apply Exists.intro
    apply Exists.intro
    apply And.intro
    · cb_eq
    repeat' cell_step
    · rename_i h; rwa [rnd, if_pos h] at q
    · rename_i h; rwa [rnd, if_neg h] at q

theorem c_quotient {g : Gl} {u d : Int} {mu : List (Addr × Mu)} {Q : D → List (Addr × Mu) → Prop}  (q : Q (.tup [.int (if 0 < d then u else -u), .int (if 0 < d then d else -d)]) mu) : CallW g 1 (.ref 509) [.int u, .int d] mu Q := by
  refine callW_def (n := 0) (dds := []) (dvs := []) rfl (by kernel_rfl) (by kernel_rfl) (fun _ _ => rfl) ?_ ?_
  · intro X s vs b a
    obtain ⟨v0, r, rfl, a0, a⟩ := a
    obtain ⟨v1, r, rfl, a1, a⟩ := a
    obtain rfl : r = [] := a
    exact BindsTo.of_eq rfl
  · intro c hsc hcn
    apply Exists.intro
    apply Exists.intro
    apply And.intro
    · cb_eq
    repeat' cell_step
    · rename_i h; rwa [if_pos h, if_pos h] at q
    · rename_i h; rwa [if_neg h, if_neg h] at q

theorem c_badness {g : Gl} {e t : Int} {mu : List (Addr × Mu)} {Q : D → List (Addr × Mu) → Prop} (h1 : 0 ≤ e) (h2 : e < 268435456) (h3 : t < 268435456) (q : Q (.int (bad e t)) mu) : CallW g 1 (.ref 140) [.int e, .int t] mu Q := by
  refine callW_def (n := 0) (dds := []) (dvs := []) rfl (by kernel_rfl) (by kernel_rfl) (fun _ _ => rfl) ?_ ?_
  · intro X s vs b a
    obtain ⟨v0, r, rfl, a0, a⟩ := a
    obtain ⟨v1, r, rfl, a1, a⟩ := a
    obtain rfl : r = [] := a
    exact BindsTo.of_eq rfl
  · intro c hsc hcn
    apply Exists.intro
    apply Exists.intro
    apply And.intro
    · cb_eq
    have f1 : 1663497 ≤ t → 0 < t.fdiv 297 ∧ t.fdiv 297 < 268435456 := fun h => by rw [Int.fdiv_eq_ediv_of_nonneg _ (by w_left)]; w_left
    have f2 : 0 < t → 0 ≤ (e * 297).fdiv t := fun h => by rw [Int.fdiv_eq_ediv_of_nonneg _ (by w_left)]; exact Int.ediv_nonneg (by w_left) (by w_left)
    have f3 : 1663497 ≤ t → 0 ≤ e.fdiv (t.fdiv 297) := fun h => by rw [Int.fdiv_eq_ediv_of_nonneg _ (by w_left)]; exact Int.ediv_nonneg (by w_left) (by w_left)
    repeat' cell_step
    all_goals
      refine Eq.mp (congrArg (fun z => Q (D.int z) mu) ?_) q
      unfold bad badr
      repeat' split
      all_goals first | rfl | w_left
    
end
section
local macro_rules | `(tactic| cell_step) => `(tactic| (first
  | (guard_target = CallQ ..; with_reducible refine cq_pure (by first | exact c_is_whole (by w_left) (by w_left) | exact c_check_whole | exact c_check_dimen (by w_left) (by w_left) | exact c_check_number (by w_left) (by w_left)) (by w_left) ?_)
  | fail "no step"))
noncomputable abbrev dim (v : Int) : Prop := -1073741823 ≤ v ∧ v ≤ 1073741823
noncomputable abbrev glueNs : List Str := [Str.ofString "shrink_order", Str.ofString "shrink", Str.ofString "stretch_order", Str.ofString "stretch", Str.ofString "width"]
noncomputable abbrev glueL (w st so sh sho : Int) : List D := [.int (if sh = 0 then 0 else sho), .int sh, .int (if st = 0 then 0 else so), .int st, .int w]
noncomputable abbrev glueD (w st so sh sho : Int) : D := .inst 222 glueNs (glueL w st so sh sho)
noncomputable abbrev kernNs : List Str := [Str.ofString "sort", Str.ofString "width"]
noncomputable abbrev kernD (w s : Int) : D := .inst 368 kernNs [.int s, .int w]
noncomputable abbrev skipNs : List Str := [Str.ofString "leader", Str.ofString "sort", Str.ofString "glue"]
noncomputable abbrev skipD (gl : D) (s : Int) : D := .inst 390 skipNs [.none, .int s, gl]
noncomputable abbrev penD (v : Int) : D := .inst 411 [Str.ofString "value"] [.int v]
noncomputable abbrev ruleNs : List Str := [Str.ofString "depth", Str.ofString "height", Str.ofString "width"]
noncomputable abbrev ruleD (w h d : Int) : D := .inst 347 ruleNs [.int d, .int h, .int w]
noncomputable abbrev unsetNs : List Str := [Str.ofString "is_vertical", Str.ofString "totals", Str.ofString "spans", Str.ofString "items", Str.ofString "depth", Str.ofString "height", Str.ofString "width"]
noncomputable abbrev unsetD (w h d : Int) (items : D) (sp : Int) (tot : D) : D := .inst 433 unsetNs [.bool false, tot, .int sp, items, .int d, .int h, .int w]
noncomputable abbrev boxNs : List Str := [Str.ofString "ratio", Str.ofString "order", Str.ofString "sign", Str.ofString "shift", Str.ofString "items", Str.ofString "depth", Str.ofString "height", Str.ofString "width", Str.ofString "kind"]
noncomputable abbrev boxL (k w h d : Int) (items : D) (sg od : Int) (ra : D) : List D := [ra, .int od, .int sg, .int 0, items, .int d, .int h, .int w, .int k]
noncomputable abbrev boxD (k w h d : Int) (items : D) (sg od : Int) (ra : D) : D := .inst 326 boxNs (boxL k w h d items sg od ra)
noncomputable abbrev totNs : List Str := [Str.ofString "shrink", Str.ofString "stretch", Str.ofString "natural"]
theorem c_Glue_init {g : Gl} {w st so sh sho : Int} {x dx : Addr} {mu : List (Addr × Mu)} {Q : D → List (Addr × Mu) → Prop} (h1 : dim w) (h2 : dim st) (h3 : dim sh) (h4 : 0 ≤ so) (h5 : so ≤ 3) (h6 : 0 ≤ sho) (h7 : sho ≤ 3) (q : Q .none ((dx, .dict glueNs (glueL w st so sh sho)) :: mu)) : CallW g 3 (.ref 169) [.minst 222 x dx, .int w, .int st, .int so, .int sh, .int sho] ((dx, .dict [] []) :: mu) Q := by
  refine callW_def (n := 2) (dds := []) (dvs := []) rfl (by kernel_rfl) (by kernel_rfl) (fun _ _ => rfl) ?_ ?_
  · intro X s vs b a
    obtain ⟨v0, r, rfl, a0, a⟩ := a
    obtain ⟨v1, r, rfl, a1, a⟩ := a
    obtain ⟨v2, r, rfl, a2, a⟩ := a
    obtain ⟨v3, r, rfl, a3, a⟩ := a
    obtain ⟨v4, r, rfl, a4, a⟩ := a
    obtain ⟨v5, r, rfl, a5, a⟩ := a
    obtain rfl : r = [] := a
    exact BindsTo.of_defaults rfl (b.kx _ _ rfl) rfl rfl rfl
  · intro c hsc hcn
    apply Exists.intro
    apply Exists.intro
    apply And.intro
    · cb_eq
    repeat' cell_step
    all_goals
      refine Eq.mp (congrArg (fun z => Q .none ((dx, .dict glueNs z) :: mu)) ?_) q
      simp only [glueL]
      simp [*]

theorem c_Kern_init {g : Gl} {w s : Int} {x dx : Addr} {mu : List (Addr × Mu)} {Q : D → List (Addr × Mu) → Prop} (h1 : dim w) (h2 : 0 ≤ s) (h3 : s ≤ 3) (q : Q .none ((dx, .dict kernNs [.int s, .int w]) :: mu)) : CallW g 3 (.ref 365) [.minst 368 x dx, .int w, .int s] ((dx, .dict [] []) :: mu) Q := by
  refine callW_def (n := 2) (dds := []) (dvs := []) rfl (by kernel_rfl) (by kernel_rfl) (fun _ _ => rfl) ?_ ?_
  · intro X s vs b a
    obtain ⟨v0, r, rfl, a0, a⟩ := a
    obtain ⟨v1, r, rfl, a1, a⟩ := a
    obtain ⟨v2, r, rfl, a2, a⟩ := a
    obtain rfl : r = [] := a
    exact BindsTo.of_eq rfl
  · intro c hsc hcn
    apply Exists.intro
    apply Exists.intro
    apply And.intro
    · cb_eq
    repeat' cell_step
    exact q

theorem c_Skip_init {g : Gl} {gl : D} {x dx : Addr} {mu : List (Addr × Mu)} {Q : D → List (Addr × Mu) → Prop}  (q : Q .none ((dx, .dict skipNs [.none, .int 0, gl]) :: mu)) : CallW g 3 (.ref 387) [.minst 390 x dx, gl, .int 0] ((dx, .dict [] []) :: mu) Q := by
  refine callW_def (n := 2) (dds := [.none]) (dvs := [.none]) rfl (by kernel_rfl) (by kernel_rfl) (fun _ _ => ⟨_, _, rfl, rfl, rfl⟩) ?_ ?_
  · intro X s vs b a
    obtain ⟨v0, r, rfl, a0, a⟩ := a
    obtain ⟨v1, r, rfl, a1, a⟩ := a
    obtain ⟨v2, r, rfl, a2, a⟩ := a
    obtain rfl : r = [] := a
    exact BindsTo.of_defaults rfl (b.kx _ _ rfl) rfl rfl rfl
  · intro c hsc hcn
    apply Exists.intro
    apply Exists.intro
    apply And.intro
    · cb_eq
    repeat' cell_step
    exact q

theorem c_Pen_init {g : Gl} {v : Int} {x dx : Addr} {mu : List (Addr × Mu)} {Q : D → List (Addr × Mu) → Prop} (h1 : dim v) (q : Q .none ((dx, .dict [Str.ofString "value"] [.int v]) :: mu)) : CallW g 3 (.ref 408) [.minst 411 x dx, .int v] ((dx, .dict [] []) :: mu) Q := by
  refine callW_def (n := 2) (dds := []) (dvs := []) rfl (by kernel_rfl) (by kernel_rfl) (fun _ _ => rfl) ?_ ?_
  · intro X s vs b a
    obtain ⟨v0, r, rfl, a0, a⟩ := a
    obtain ⟨v1, r, rfl, a1, a⟩ := a
    obtain rfl : r = [] := a
    exact BindsTo.of_eq rfl
  · intro c hsc hcn
    apply Exists.intro
    apply Exists.intro
    apply And.intro
    · cb_eq
    repeat' cell_step
    exact q

theorem c_Rule_init {g : Gl} {w h d : Int} {x dx : Addr} {mu : List (Addr × Mu)} {Q : D → List (Addr × Mu) → Prop} (h1 : dim w) (h2 : dim h) (h3 : dim d) (q : Q .none ((dx, .dict ruleNs [.int d, .int h, .int w]) :: mu)) : CallW g 3 (.ref 344) [.minst 347 x dx, .int w, .int h, .int d] ((dx, .dict [] []) :: mu) Q := by
  refine callW_def (n := 2) (dds := []) (dvs := []) rfl (by kernel_rfl) (by kernel_rfl) (fun _ _ => rfl) ?_ ?_
  · intro X s vs b a
    obtain ⟨v0, r, rfl, a0, a⟩ := a
    obtain ⟨v1, r, rfl, a1, a⟩ := a
    obtain ⟨v2, r, rfl, a2, a⟩ := a
    obtain ⟨v3, r, rfl, a3, a⟩ := a
    obtain rfl : r = [] := a
    exact BindsTo.of_eq rfl
  · intro c hsc hcn
    apply Exists.intro
    apply Exists.intro
    apply And.intro
    · cb_eq
    repeat' cell_step
    exact q

theorem c_Unset_init {g : Gl} {w h d : Int} {items tot : D} {x dx : Addr} {mu : List (Addr × Mu)} {Q : D → List (Addr × Mu) → Prop} (h1 : dim w) (h2 : dim h) (h3 : dim d) (q : Q .none ((dx, .dict unsetNs [.bool false, tot, .int 1, items, .int d, .int h, .int w]) :: mu)) : CallW g 3 (.ref 430) [.minst 433 x dx, .int w, .int h, .int d, items, .int 1, tot] ((dx, .dict [] []) :: mu) Q := by
  refine callW_def (n := 2) (dds := [.bool false]) (dvs := [.bool false]) rfl (by kernel_rfl) (by kernel_rfl) (fun _ _ => ⟨_, _, rfl, rfl, rfl⟩) ?_ ?_
  · intro X s vs b a
    obtain ⟨v0, r, rfl, a0, a⟩ := a
    obtain ⟨v1, r, rfl, a1, a⟩ := a
    obtain ⟨v2, r, rfl, a2, a⟩ := a
    obtain ⟨v3, r, rfl, a3, a⟩ := a
    obtain ⟨v4, r, rfl, a4, a⟩ := a
    obtain ⟨v5, r, rfl, a5, a⟩ := a
    obtain ⟨v6, r, rfl, a6, a⟩ := a
    obtain rfl : r = [] := a
    exact BindsTo.of_defaults rfl (b.kx _ _ rfl) rfl rfl rfl
  · intro c hsc hcn
    apply Exists.intro
    apply Exists.intro
    apply And.intro
    · cb_eq
    repeat' cell_step
    exact q

theorem c_Box_init {g : Gl} {k w h d : Int} {items : D} {x dx : Addr} {mu : List (Addr × Mu)} {Q : D → List (Addr × Mu) → Prop} (h1 : dim w) (h2 : dim h) (h3 : dim d) (h4 : 2 ≤ k) (h5 : k ≤ 3) (q : Q .none ((dx, .dict boxNs (boxL k w h d items 0 0 (.tup [.int 0, .int 1]))) :: mu)) : CallW g 3 (.ref 323) [.minst 326 x dx, .int k, .int w, .int h, .int d, items] ((dx, .dict [] []) :: mu) Q := by
  refine callW_def (n := 2) (dds := []) (dvs := []) rfl (by kernel_rfl) (by kernel_rfl) (fun _ _ => rfl) ?_ ?_
  · intro X s vs b a
    obtain ⟨v0, r, rfl, a0, a⟩ := a
    obtain ⟨v1, r, rfl, a1, a⟩ := a
    obtain ⟨v2, r, rfl, a2, a⟩ := a
    obtain ⟨v3, r, rfl, a3, a⟩ := a
    obtain ⟨v4, r, rfl, a4, a⟩ := a
    obtain ⟨v5, r, rfl, a5, a⟩ := a
    obtain rfl : r = [] := a
    exact BindsTo.of_eq rfl
  · intro c hsc hcn
    apply Exists.intro
    apply Exists.intro
    apply And.intro
    · cb_eq
    repeat' cell_step
    exact q

theorem c_Tot_init {g : Gl} {x dx : Addr} {mu : List (Addr × Mu)} {Q : D → List (Addr × Mu) → Prop}  (q : Q .none ((dx, .dict totNs [.lst [.int 0, .int 0, .int 0, .int 0], .lst [.int 0, .int 0, .int 0, .int 0], .int 0]) :: mu)) : CallW g 3 (.ref 247) [.minst 285 x dx] ((dx, .dict [] []) :: mu) Q := by
  refine callW_def (n := 2) (dds := []) (dvs := []) rfl (by kernel_rfl) (by kernel_rfl) (fun _ _ => rfl) ?_ ?_
  · intro X s vs b a
    obtain ⟨v0, r, rfl, a0, a⟩ := a
    obtain rfl : r = [] := a
    exact BindsTo.of_eq rfl
  · intro c hsc hcn
    apply Exists.intro
    apply Exists.intro
    apply And.intro
    · cb_eq
    repeat' cell_step
    exact q
    
end
section
theorem c_Glue {g : Gl} {w st so sh sho : Int} {mu : List (Addr × Mu)} {Q : D → List (Addr × Mu) → Prop} (h1 : dim w) (h2 : dim st) (h3 : dim sh) (h4 : 0 ≤ so) (h5 : so ≤ 3) (h6 : 0 ≤ sho) (h7 : sho ≤ 3) (q : Q (glueD w st so sh sho) mu) :
    CallW g 4 (.ref 222) [.int w, .int st, .int so, .int sh, .int sho] mu Q := callW_make (fI := 169) (by kernel_rfl) fun x dx _ => c_Glue_init h1 h2 h3 h4 h5 h6 h7 ⟨rfl, .inr ⟨_, _, _, .here, q⟩⟩
theorem c_Kern {g : Gl} {w s : Int} {mu : List (Addr × Mu)} {Q : D → List (Addr × Mu) → Prop} (h1 : dim w) (h2 : 0 ≤ s) (h3 : s ≤ 3) (q : Q (kernD w s) mu) :
    CallW g 4 (.ref 368) [.int w, .int s] mu Q := callW_make (fI := 365) (by kernel_rfl) fun x dx _ => c_Kern_init h1 h2 h3 ⟨rfl, .inr ⟨_, _, _, .here, q⟩⟩
theorem c_Skip {g : Gl} {gl : D} {mu : List (Addr × Mu)} {Q : D → List (Addr × Mu) → Prop} (q : Q (skipD gl 0) mu) :
    CallW g 4 (.ref 390) [gl, .int 0] mu Q := callW_make (fI := 387) (by kernel_rfl) fun x dx _ => c_Skip_init ⟨rfl, .inr ⟨_, _, _, .here, q⟩⟩
theorem c_Pen {g : Gl} {v : Int} {mu : List (Addr × Mu)} {Q : D → List (Addr × Mu) → Prop} (h1 : dim v) (q : Q (penD v) mu) :
    CallW g 4 (.ref 411) [.int v] mu Q := callW_make (fI := 408) (by kernel_rfl) fun x dx _ => c_Pen_init h1 ⟨rfl, .inr ⟨_, _, _, .here, q⟩⟩
theorem c_Rule {g : Gl} {w h d : Int} {mu : List (Addr × Mu)} {Q : D → List (Addr × Mu) → Prop} (h1 : dim w) (h2 : dim h) (h3 : dim d) (q : Q (ruleD w h d) mu) :
    CallW g 4 (.ref 347) [.int w, .int h, .int d] mu Q := callW_make (fI := 344) (by kernel_rfl) fun x dx _ => c_Rule_init h1 h2 h3 ⟨rfl, .inr ⟨_, _, _, .here, q⟩⟩
noncomputable abbrev totD : D := .inst 285 totNs [.lst [.int 0, .int 0, .int 0, .int 0], .lst [.int 0, .int 0, .int 0, .int 0], .int 0]
theorem c_Tot {g : Gl} {mu : List (Addr × Mu)} {Q : D → List (Addr × Mu) → Prop} (q : Q totD mu) :
    CallW g 4 (.ref 285) [] mu Q := callW_make (fI := 247) (by kernel_rfl) fun x dx _ => c_Tot_init ⟨rfl, .inr ⟨_, _, _, .here, q⟩⟩
theorem c_Unset {g : Gl} {w h d : Int} {items tot : D} {mu : List (Addr × Mu)} {Q : D → List (Addr × Mu) → Prop} (h1 : dim w) (h2 : dim h) (h3 : dim d) (q : Q (unsetD w h d items 1 tot) mu) :
    CallW g 4 (.ref 433) [.int w, .int h, .int d, items, .int 1, tot] mu Q := callW_make (fI := 430) (by kernel_rfl) fun x dx _ => c_Unset_init h1 h2 h3 ⟨rfl, .inr ⟨_, _, _, .here, q⟩⟩
theorem c_Box {g : Gl} {k w h d : Int} {items : D} {mu : List (Addr × Mu)} {Q : D → List (Addr × Mu) → Prop} (h1 : dim w) (h2 : dim h) (h3 : dim d) (h4 : 2 ≤ k) (h5 : k ≤ 3) (q : Q (boxD k w h d items 0 0 (.tup [.int 0, .int 1])) mu) :
    CallW g 4 (.ref 326) [.int k, .int w, .int h, .int d, items] mu Q := callW_make (fI := 323) (by kernel_rfl) fun x dx _ => c_Box_init h1 h2 h3 h4 h5 ⟨rfl, .inr ⟨_, _, _, .here, q⟩⟩
theorem c_Boxm {g : Gl} {k w h d : Int} {items : D} {mu : List (Addr × Mu)} {Q : D → List (Addr × Mu) → Prop} (h1 : dim w) (h2 : dim h) (h3 : dim d) (h4 : 2 ≤ k) (h5 : k ≤ 3) (q : ∀ x dx, Q (.minst 326 x dx) ((dx, .dict boxNs (boxL k w h d items 0 0 (.tup [.int 0, .int 1]))) :: mu)) :
    CallW g 4 (.ref 326) [.int k, .int w, .int h, .int d, items] mu Q := callW_make (fI := 323) (by kernel_rfl) fun x dx _ => c_Box_init h1 h2 h3 h4 h5 ⟨rfl, .inl (q x dx)⟩
section
local macro_rules | `(tactic| cell_step) => `(tactic| (first
  | (guard_target = EW _ _ (.List _ _) ..; with_reducible refine ew_mlst rfl ?_)
  | (guard_target = KML ..; intro a _)
  | fail "no step"))
theorem c_Totm_init {g : Gl} {x dx : Addr} {mu : List (Addr × Mu)} {Q : D → List (Addr × Mu) → Prop}  (q : ∀ a b, Q .none ((b, .lst [.int 0, .int 0, .int 0, .int 0]) :: (a, .lst [.int 0, .int 0, .int 0, .int 0]) :: (dx, .dict totNs [.mlst b, .mlst a, .int 0]) :: mu)) : CallW g 3 (.ref 247) [.minst 285 x dx] ((dx, .dict [] []) :: mu) Q := by
  refine callW_def (n := 2) (dds := []) (dvs := []) rfl (by kernel_rfl) (by kernel_rfl) (fun _ _ => rfl) ?_ ?_
  · intro X s vs b a
    obtain ⟨v0, r, rfl, a0, a⟩ := a
    obtain rfl : r = [] := a
    exact BindsTo.of_eq rfl
  · intro c hsc hcn
    apply Exists.intro
    apply Exists.intro
    apply And.intro
    · cb_eq
    repeat' cell_step
    exact q _ _
    end
    theorem c_Totm {g : Gl} {mu : List (Addr × Mu)} {Q : D → List (Addr × Mu) → Prop} (q : ∀ x dx a b, Q (.minst 285 x dx) ((b, .lst [.int 0, .int 0, .int 0, .int 0]) :: (a, .lst [.int 0, .int 0, .int 0, .int 0]) :: (dx, .dict totNs [.mlst b, .mlst a, .int 0]) :: mu)) :
        CallW g 4 (.ref 285) [] mu Q := callW_make (fI := 247) (by kernel_rfl) fun x dx _ => c_Totm_init fun a b => ⟨rfl, .inl (q x dx a b)⟩
    
end
section
/-! the nodes of a list -/
inductive Nd where
  | rule (w h d : Int) | unset (w h d : Int) | box (k w h d : Int) (items : D) (sg od : Int) (ra : D)
  | kern (w : Int) | skip (w st so sh sho : Int) | pen (v : Int)
noncomputable abbrev Nd.D : Nd → D
  | .rule w h d => ruleD w h d
  | .unset w h d => unsetD w h d (.lst []) 1 totD
  | .box k w h d items sg od ra => boxD k w h d items sg od ra
  | .kern w => kernD w 1
  | .skip w st so sh sho => skipD (glueD w st so sh sho) 0
  | .pen v => penD v
noncomputable abbrev Nd.ok : Nd → Prop
  | .box k _ _ _ _ _ _ _ => 2 ≤ k ∧ k ≤ 3
  | _ => True
noncomputable abbrev Nd.kind : Nd → Int
  | .rule .. => 4
  | .unset .. => 14
  | .box k .. => k
  | .kern .. => 5
  | .skip .. => 6
  | .pen .. => 7
noncomputable abbrev Nd.wd : Nd → Int
  | .rule w _ _ => w
  | .unset w _ _ => w
  | .box _ w _ _ _ _ _ _ => w
  | .kern w => w
  | .skip w _ _ _ _ => w
  | .pen _ => 0
noncomputable abbrev Nd.ht : Nd → Int
  | .rule _ h _ => h
  | .unset _ h _ => h
  | .box _ _ h _ _ _ _ _ => h
  | _ => 0
noncomputable abbrev Nd.dp : Nd → Int
  | .rule _ _ d => d
  | .unset _ _ d => d
  | .box _ _ _ d _ _ _ _ => d
  | _ => 0
theorem c_width_of {g : Gl} {n : Nd} {mu : List (Addr × Mu)} {Q : D → List (Addr × Mu) → Prop} (hn : n.ok) (q : Q (.int n.wd) mu) : CallW g 2 (.ref 442) [n.D] mu Q := by
  refine callW_def (n := 1) (dds := []) (dvs := []) rfl (by kernel_rfl) (by kernel_rfl) (fun _ _ => rfl) ?_ ?_
  · intro X s vs b a
    obtain ⟨v0, r, rfl, a0, a⟩ := a
    obtain rfl : r = [] := a
    exact BindsTo.of_eq rfl
  · intro c hsc hcn
    apply Exists.intro
    apply Exists.intro
    apply And.intro
    · cb_eq
    cases n
    all_goals simp only [Nd.D, Nd.ok, Nd.wd] at *
    all_goals repeat' cell_step
    all_goals exact q

theorem c_height_of {g : Gl} {n : Nd} {mu : List (Addr × Mu)} {Q : D → List (Addr × Mu) → Prop} (hn : n.ok) (q : Q (.int n.ht) mu) : CallW g 2 (.ref 447) [n.D] mu Q := by
  refine callW_def (n := 1) (dds := []) (dvs := []) rfl (by kernel_rfl) (by kernel_rfl) (fun _ _ => rfl) ?_ ?_
  · intro X s vs b a
    obtain ⟨v0, r, rfl, a0, a⟩ := a
    obtain rfl : r = [] := a
    exact BindsTo.of_eq rfl
  · intro c hsc hcn
    apply Exists.intro
    apply Exists.intro
    apply And.intro
    · cb_eq
    cases n
    all_goals simp only [Nd.D, Nd.ok, Nd.ht] at *
    all_goals repeat' cell_step
    all_goals exact q

theorem c_depth_of {g : Gl} {n : Nd} {mu : List (Addr × Mu)} {Q : D → List (Addr × Mu) → Prop} (hn : n.ok) (q : Q (.int n.dp) mu) : CallW g 2 (.ref 452) [n.D] mu Q := by
  refine callW_def (n := 1) (dds := []) (dvs := []) rfl (by kernel_rfl) (by kernel_rfl) (fun _ _ => rfl) ?_ ?_
  · intro X s vs b a
    obtain ⟨v0, r, rfl, a0, a⟩ := a
    obtain rfl : r = [] := a
    exact BindsTo.of_eq rfl
  · intro c hsc hcn
    apply Exists.intro
    apply Exists.intro
    apply And.intro
    · cb_eq
    cases n
    all_goals simp only [Nd.D, Nd.ok, Nd.dp] at *
    all_goals repeat' cell_step
    all_goals exact q
    
end
local macro_rules | `(tactic| fin_range) => `(tactic| first | (exfalso; simp only [Nd.kind, Nd.ok, not_true_eq_false] at *; done) | (exfalso; simp only [Nd.kind, Nd.ok] at *; w_left) | (repeat' cell_step))
section
theorem gq_kind {g : Gl} {c : Ctx} {st : St} {n : Nd} {Q : D → St → Prop} (q : Q (.int n.kind) st) : GetQ g c n.D (Str.ofString "kind") st Q := by
  cases n
  all_goals cell_step
  all_goals exact q
theorem box_of {n : Nd} (hn : n.ok) (h : n.kind = 2 ∨ n.kind = 3) : ∃ k w h d items sg od ra, n = .box k w h d items sg od ra := by
  cases n <;> first | exact ⟨_, _, _, _, _, _, _, _, rfl⟩ | (simp only [Nd.kind] at h; w_left)
theorem kern_of {n : Nd} (hn : n.ok) (h : n.kind = 5) : ∃ w, n = .kern w := by
  cases n <;> first | exact ⟨_, rfl⟩ | (simp only [Nd.kind, Nd.ok] at h hn; w_left)
theorem skip_of {n : Nd} (hn : n.ok) (h : n.kind = 6) : ∃ w st so sh sho, n = .skip w st so sh sho := by
  cases n <;> first | exact ⟨_, _, _, _, _, rfl⟩ | (simp only [Nd.kind, Nd.ok] at h hn; w_left)
noncomputable abbrev Nd.ac : Nd → Int
  | .rule w _ _ => w
  | .unset w _ _ => w
  | .box _ w _ _ _ _ _ _ => w
  | _ => 0
noncomputable abbrev Nd.vs : Nd → Int
  | .kern w => w
  | n => n.ht + n.dp
noncomputable abbrev flexI (sg od st so sh sho : Int) : Int := if sg = 1 ∧ (if st = 0 then 0 else so) = od then st else if sg = 2 ∧ (if sh = 0 then 0 else sho) = od then -sh else 0
local macro_rules | `(tactic| cell_step) => `(tactic| (first
  | (guard_target = CallQ _ _ (.ref _) ..; with_reducible refine cq_pure (by first | exact c_width_of (by assumption) | exact c_height_of (by assumption) | exact c_depth_of (by assumption) | exact c_rounded (by w_left) (by w_left)) (by w_left) ?_)
  | (guard_target = GetQ ..; with_reducible refine gq_kind ?_)
  | fail "no step"))
theorem c_line_height {g : Gl} {n : Nd} {mu : List (Addr × Mu)} {Q : D → List (Addr × Mu) → Prop} (hn : n.ok) (q : Q (.int n.ht) mu) : CallW g 3 (.ref 459) [n.D] mu Q := by
  refine callW_def (n := 2) (dds := []) (dvs := []) rfl (by kernel_rfl) (by kernel_rfl) (fun _ _ => rfl) ?_ ?_
  · intro X s vs b a
    obtain ⟨v0, r, rfl, a0, a⟩ := a
    obtain rfl : r = [] := a
    exact BindsTo.of_eq rfl
  · intro c hsc hcn
    apply Exists.intro
    apply Exists.intro
    apply And.intro
    · cb_eq
    repeat' cell_step
    all_goals cases n
    all_goals fin_range
    all_goals simpa using q

theorem c_line_depth {g : Gl} {n : Nd} {mu : List (Addr × Mu)} {Q : D → List (Addr × Mu) → Prop} (hn : n.ok) (q : Q (.int n.dp) mu) : CallW g 3 (.ref 466) [n.D] mu Q := by
  refine callW_def (n := 2) (dds := []) (dvs := []) rfl (by kernel_rfl) (by kernel_rfl) (fun _ _ => rfl) ?_ ?_
  · intro X s vs b a
    obtain ⟨v0, r, rfl, a0, a⟩ := a
    obtain rfl : r = [] := a
    exact BindsTo.of_eq rfl
  · intro c hsc hcn
    apply Exists.intro
    apply Exists.intro
    apply And.intro
    · cb_eq
    repeat' cell_step
    all_goals cases n
    all_goals fin_range
    all_goals simpa using q

theorem c_across {g : Gl} {n : Nd} {mu : List (Addr × Mu)} {Q : D → List (Addr × Mu) → Prop} (hn : n.ok) (q : Q (.int n.ac) mu) : CallW g 3 (.ref 488) [n.D] mu Q := by
  refine callW_def (n := 2) (dds := []) (dvs := []) rfl (by kernel_rfl) (by kernel_rfl) (fun _ _ => rfl) ?_ ?_
  · intro X s vs b a
    obtain ⟨v0, r, rfl, a0, a⟩ := a
    obtain rfl : r = [] := a
    exact BindsTo.of_eq rfl
  · intro c hsc hcn
    apply Exists.intro
    apply Exists.intro
    apply And.intro
    · cb_eq
    repeat' cell_step
    all_goals cases n
    all_goals fin_range
    all_goals simpa using q

theorem c_flex {g : Gl} {k w h d : Int} {items : D} {sg od : Int} {ra : D} {gw st so sh sho : Int} {mu : List (Addr × Mu)} {Q : D → List (Addr × Mu) → Prop}  (q : Q (.int (flexI sg od st so sh sho)) mu) : CallW g 1 (.ref 523) [boxD k w h d items sg od ra, glueD gw st so sh sho] mu Q := by
  refine callW_def (n := 0) (dds := []) (dvs := []) rfl (by kernel_rfl) (by kernel_rfl) (fun _ _ => rfl) ?_ ?_
  · intro X s vs b a
    obtain ⟨v0, r, rfl, a0, a⟩ := a
    obtain ⟨v1, r, rfl, a1, a⟩ := a
    obtain rfl : r = [] := a
    exact BindsTo.of_eq rfl
  · intro c hsc hcn
    apply Exists.intro
    apply Exists.intro
    apply And.intro
    · cb_eq
    repeat' cell_step
    all_goals
      refine Eq.mp (congrArg (fun z => Q (D.int z) mu) ?_) q
      unfold flexI
      simp_all

theorem c_set_part {g : Gl} {k w h d : Int} {items : D} {sg od up dn : Int} {fl : Int} {mu : List (Addr × Mu)} {Q : D → List (Addr × Mu) → Prop} (h1 : 0 < dn) (h2 : dn < 268435456) (h3 : -(2 ^ 60) < fl) (h4 : fl < 2 ^ 60) (q : Q (.int (rnd (up * fl) dn)) mu) : CallW g 2 (.ref 530) [boxD k w h d items sg od (.tup [.int up, .int dn]), .int fl] mu Q := by
  refine callW_def (n := 1) (dds := []) (dvs := []) rfl (by kernel_rfl) (by kernel_rfl) (fun _ _ => rfl) ?_ ?_
  · intro X s vs b a
    obtain ⟨v0, r, rfl, a0, a⟩ := a
    obtain ⟨v1, r, rfl, a1, a⟩ := a
    obtain rfl : r = [] := a
    exact BindsTo.of_eq rfl
  · intro c hsc hcn
    apply Exists.intro
    apply Exists.intro
    apply And.intro
    · cb_eq
    repeat' cell_step
    exact q

theorem c_part_size {g : Gl} {k w h d : Int} {items : D} {sg od : Int} {ra : D} {n : Nd} {mu : List (Addr × Mu)} {Q : D → List (Addr × Mu) → Prop} (hn : n.ok) (q : Q (.int (if k = 2 then n.wd else n.vs)) mu) : CallW g 3 (.ref 537) [boxD k w h d items sg od ra, n.D] mu Q := by
  refine callW_def (n := 2) (dds := []) (dvs := []) rfl (by kernel_rfl) (by kernel_rfl) (fun _ _ => rfl) ?_ ?_
  · intro X s vs b a
    obtain ⟨v0, r, rfl, a0, a⟩ := a
    obtain ⟨v1, r, rfl, a1, a⟩ := a
    obtain rfl : r = [] := a
    exact BindsTo.of_eq rfl
  · intro c hsc hcn
    apply Exists.intro
    apply Exists.intro
    apply And.intro
    · cb_eq
    repeat' cell_step
    all_goals cases n
    all_goals fin_range
    all_goals simpa [*] using q
    
end
local macro_rules | `(tactic| cell_step) => `(tactic| first | (guard_target = GetQ ..; with_reducible refine gq_kind ?_) | fail "no step")
section
noncomputable abbrev l4 (S : Nat → Int) : List D := [.int (S 0), .int (S 1), .int (S 2), .int (S 3)]
theorem l4_get {S : Nat → Int} {k : Int} (h0 : 0 ≤ k) (h3 : k ≤ 3) : (l4 S)[k.toNat]? = some (.int (S k.toNat)) := by
  have : k = 0 ∨ k = 1 ∨ k = 2 ∨ k = 3 := by w_left
  rcases this with rfl | rfl | rfl | rfl <;> rfl
theorem l4_set {S : Nat → Int} {k v : Int} (h0 : 0 ≤ k) (h3 : k ≤ 3) : (l4 S).set k.toNat (.int (S k.toNat + v)) = l4 (fun i => if i = k.toNat then S i + v else S i) := by
  have : k = 0 ∨ k = 1 ∨ k = 2 ∨ k = 3 := by w_left
  rcases this with rfl | rfl | rfl | rfl <;> rfl
noncomputable def top (S : Nat → Int) : Int := if S 3 ≠ 0 then 3 else if S 2 ≠ 0 then 2 else if S 1 ≠ 0 then 1 else 0
noncomputable abbrev totM (dx a b : Addr) (nat : Int) (S T : Nat → Int) (mu : List (Addr × Mu)) : List (Addr × Mu) := (b, .lst (l4 T)) :: (a, .lst (l4 S)) :: (dx, .dict totNs [.mlst b, .mlst a, .int nat]) :: mu
theorem c_top_order {g : Gl} {a : Addr} {S : Nat → Int} {mu : List (Addr × Mu)} {Q : D → List (Addr × Mu) → Prop}  (q : Q (.int (top S)) ((a, .lst (l4 S)) :: mu)) : CallW g 1 (.ref 233) [.mlst a] ((a, .lst (l4 S)) :: mu) Q := by
  refine CallW.drop ?_
  refine callW_def (n := 0) (dds := []) (dvs := []) rfl (by kernel_rfl) (by kernel_rfl) (fun _ _ => rfl) ?_ ?_
  · intro X s vs b a
    obtain ⟨v0, r, rfl, a0, a⟩ := a
    obtain rfl : r = [] := a
    exact BindsTo.of_eq rfl
  · intro c hsc hcn
    apply Exists.intro
    apply Exists.intro
    apply And.intro
    · cb_eq
    repeat' cell_step
    all_goals first
      | exact ⟨_, List.sublist_cons_self _ _, by simpa [top, *] using q⟩
      | exact ⟨_, List.Sublist.refl _, by simpa [top, *] using q⟩

theorem c_widen {g : Gl} {x dx a b : Addr} {nat v : Int} {S T : Nat → Int} {mu : List (Addr × Mu)} {Q : D → List (Addr × Mu) → Prop}  (q : Q .none (totM dx a b (nat + v) S T mu)) : CallW g 1 (.ref 261) [.minst 285 x dx, .int v] (totM dx a b nat S T mu) Q := by
  refine callW_def (n := 0) (dds := []) (dvs := []) rfl (by kernel_rfl) (by kernel_rfl) (fun _ _ => rfl) ?_ ?_
  · intro X s vs b a
    obtain ⟨v0, r, rfl, a0, a⟩ := a
    obtain ⟨v1, r, rfl, a1, a⟩ := a
    obtain rfl : r = [] := a
    exact BindsTo.of_eq rfl
  · intro c hsc hcn
    apply Exists.intro
    apply Exists.intro
    apply And.intro
    · cb_eq
    repeat' cell_step
    exact q

theorem c_stop {g : Gl} {x dx a b : Addr} {nat : Int} {S T : Nat → Int} {mu : List (Addr × Mu)} {Q : D → List (Addr × Mu) → Prop}  (q : Q (.int (top S)) (totM dx a b nat S T mu)) : CallW g 2 (.ref 268) [.minst 285 x dx] (totM dx a b nat S T mu) Q := by
  refine callW_def (n := 1) (dds := []) (dvs := []) rfl (by kernel_rfl) (by kernel_rfl) (fun _ _ => rfl) ?_ ?_
  · intro X s vs b a
    obtain ⟨v0, r, rfl, a0, a⟩ := a
    obtain rfl : r = [] := a
    exact BindsTo.of_eq rfl
  · intro c hsc hcn
    apply Exists.intro
    apply Exists.intro
    apply And.intro
    · cb_eq
    repeat' cell_step
    refine cq_in (.skip (.here .none)) (by w_left) c_top_order ?_
    repeat' cell_step
    exact q

theorem c_shtop {g : Gl} {x dx a b : Addr} {nat : Int} {S T : Nat → Int} {mu : List (Addr × Mu)} {Q : D → List (Addr × Mu) → Prop}  (q : Q (.int (top T)) (totM dx a b nat S T mu)) : CallW g 2 (.ref 275) [.minst 285 x dx] (totM dx a b nat S T mu) Q := by
  refine callW_def (n := 1) (dds := []) (dvs := []) rfl (by kernel_rfl) (by kernel_rfl) (fun _ _ => rfl) ?_ ?_
  · intro X s vs b a
    obtain ⟨v0, r, rfl, a0, a⟩ := a
    obtain rfl : r = [] := a
    exact BindsTo.of_eq rfl
  · intro c hsc hcn
    apply Exists.intro
    apply Exists.intro
    apply And.intro
    · cb_eq
    repeat' cell_step
    refine cq_in (.here .none) (by w_left) c_top_order ?_
    repeat' cell_step
    exact q

theorem c_add {g : Gl} {x dx a b : Addr} {nat : Int} {S T : Nat → Int} {w st so sh sho : Int} {mu : List (Addr × Mu)} {Q : D → List (Addr × Mu) → Prop} (h4 : 0 ≤ so) (h5 : so ≤ 3) (h6 : 0 ≤ sho) (h7 : sho ≤ 3) (q : Q .none (totM dx a b (nat + w) (fun i => if i = (if st = 0 then 0 else so).toNat then S i + st else S i) (fun i => if i = (if sh = 0 then 0 else sho).toNat then T i + sh else T i) mu)) : CallW g 1 (.ref 254) [.minst 285 x dx, glueD w st so sh sho] (totM dx a b nat S T mu) Q := by
  refine callW_def (n := 0) (dds := []) (dvs := []) rfl (by kernel_rfl) (by kernel_rfl) (fun _ _ => rfl) ?_ ?_
  · intro X s vs b a
    obtain ⟨v0, r, rfl, a0, a⟩ := a
    obtain ⟨v1, r, rfl, a1, a⟩ := a
    obtain rfl : r = [] := a
    exact BindsTo.of_eq rfl
  · intro c hsc hcn
    apply Exists.intro
    apply Exists.intro
    apply And.intro
    · cb_eq
    have k1 : 0 ≤ (if st = 0 then 0 else so) ∧ (if st = 0 then 0 else so) ≤ 3 := by split <;> w_left
    have k2 : 0 ≤ (if sh = 0 then 0 else sho) ∧ (if sh = 0 then 0 else sho) ≤ 3 := by split <;> w_left
    have i1 : inI (if st = 0 then 0 else so) = true := by simp only [inI, Bool.and_eq_true, decide_eq_true_eq]; w_left
    have i2 : inI (if sh = 0 then 0 else sho) = true := by simp only [inI, Bool.and_eq_true, decide_eq_true_eq]; w_left
    repeat' cell_step
    refine xw_augSub rfl ?_
    repeat' cell_step
    refine ⟨_, l4 S, _, st, _, rfl, rfl, by dl_mem, k1.1, i1, by show _ < (4 : Int); w_left, l4_get k1.1 k1.2, ?_⟩
    repeat' cell_step
    refine si_mlst (ds := l4 S) (by dl_mem) k1.1 i1 (by show _ < (4 : Int); w_left) (.there .here) ?_
    rw [l4_set k1.1 k1.2]
    repeat' cell_step
    refine xw_augSub rfl ?_
    repeat' cell_step
    refine ⟨_, l4 T, _, sh, _, rfl, rfl, by dl_mem, k2.1, i2, by show _ < (4 : Int); w_left, l4_get k2.1 k2.2, ?_⟩
    repeat' cell_step
    refine si_mlst (ds := l4 T) (by dl_mem) k2.1 i2 (by show _ < (4 : Int); w_left) .here ?_
    rw [l4_set k2.1 k2.2]
    repeat' cell_step
    exact q
    
end
section
set_option genInjectivity false in
set_option genSizeOf false in
/-- what a line's sum is so far -/
structure Ln where
  nat : Int
  S : Nat → Int
  T : Nat → Int
  h : Int
  d : Int
  o : Option D
noncomputable def upS (n : Nd) (S : Nat → Int) : Nat → Int := match n with
  | .skip _ st so _ _ => fun i => if i = (if st = 0 then 0 else so).toNat then S i + st else S i
  | _ => S
noncomputable def upT (n : Nd) (T : Nat → Int) : Nat → Int := match n with
  | .skip _ _ _ sh sho => fun i => if i = (if sh = 0 then 0 else sho).toNat then T i + sh else T i
  | _ => T
noncomputable def lnStep (z : Ln) (n : Nd) : Ln := ⟨z.nat + n.wd, upS n z.S, upT n z.T, if n.ht > z.h then n.ht else z.h, if n.dp > z.d then n.dp else z.d, some n.D⟩
noncomputable def Nd.fine (n : Nd) : Prop := n.ok ∧ match n with
  | .skip _ _ so _ sho => 0 ≤ so ∧ so ≤ 3 ∧ 0 ≤ sho ∧ sho ≤ 3
  | _ => True
local macro_rules | `(tactic| cell_step) => `(tactic| (first
  | (guard_target = CallQ ..; with_reducible refine cq_pure (by first | exact c_line_height (by assumption) | exact c_line_depth (by assumption) | exact c_width_of (by assumption)) (by w_left) ?_)
  | fail "no step"))
theorem c_natural_line {g : Gl} {ns : List Nd} {mu : List (Addr × Mu)} {mu : List (Addr × Mu)} {Q : D → List (Addr × Mu) → Prop} (hn : ∀ n ∈ ns, n.fine) (q : ∀ x dx a b o, Q (.tup [.minst 285 x dx, .int (ns.foldl lnStep ⟨0, fun _ => 0, fun _ => 0, 0, 0, o⟩).h, .int (ns.foldl lnStep ⟨0, fun _ => 0, fun _ => 0, 0, 0, o⟩).d]) (totM dx a b (ns.foldl lnStep ⟨0, fun _ => 0, fun _ => 0, 0, 0, o⟩).nat (ns.foldl lnStep ⟨0, fun _ => 0, fun _ => 0, 0, 0, o⟩).S (ns.foldl lnStep ⟨0, fun _ => 0, fun _ => 0, 0, 0, o⟩).T mu)) : CallW g 5 (.ref 481) [.lst (ns.map Nd.D)] mu Q := by
  refine callW_def (n := 4) (dds := []) (dvs := []) rfl (by kernel_rfl) (by kernel_rfl) (fun _ _ => rfl) ?_ ?_
  · intro X s vs b a
    obtain ⟨v0, r, rfl, a0, a⟩ := a
    obtain rfl : r = [] := a
    exact BindsTo.of_eq rfl
  · intro c hsc hcn
    apply Exists.intro
    apply Exists.intro
    apply And.intro
    · cb_eq
    repeat' cell_step
    refine cq_call .none (by w_left) (c_Totm (fun x dx a b _ => ?_))
    simp only [List.cons_append, List.nil_append]
    repeat' cell_step
    refine for_fold (α := Nd) (ok := Nd.fine) lnStep (fun i xs z => ⟨[(Str.ofString "items", some (.lst (ns.map Nd.D))), (Str.ofString "totals", some (.minst 285 x dx)), (Str.ofString "height", some (.int z.h)), (Str.ofString "depth", some (.int z.d)), (Str.ofString "node", z.o)], [], (_, .itL i (xs.map Nd.D)) :: totM dx a b z.nat z.S z.T mu⟩) _ ?hs ?hn ns 0 ⟨0, fun _ => 0, fun _ => 0, 0, 0, none⟩ hn rfl
    case hn =>
      intro i
      refine for_step (nx_list_end .here (by assumption) ?_)
      repeat' cell_step
      exact q _ _ _ _ _
    case hs =>
      intro i n xs z hn' ih
      have hok := hn'.1
      refine for_step (nx_list rfl .here .here ?_)
      repeat' cell_step
      · obtain ⟨w, st, so, sh, sho, rfl⟩ := skip_of hok (by assumption)
        repeat' cell_step
        refine cq_in (.skip (.here (.here (.here .none)))) (by w_left) (c_add hn'.2.1 hn'.2.2.1 hn'.2.2.2.1 hn'.2.2.2.2) ?_
        repeat' cell_step
        exact ih
      · refine cq_in (.skip (.here (.here (.here .none)))) (by w_left) c_widen ?_
        repeat' cell_step
        cases n <;> first | exact ih | (exfalso; simp only [Nd.kind, not_true_eq_false] at *; done)
    
end
section
theorem it_l4 {g : Gl} {c : Ctx} {st : St} {Q : D → St → Prop} {value slice : Expr} {a : Addr} {S : Nat → Int} {k : Int} (hm : MLk a (.lst (l4 S)) st.mu) (hs : plainSlice slice = true) (h0 : 0 ≤ k) (h3 : k ≤ 3) (q : Q (.int (S k.toNat)) st) : ItQ g c value slice (.mlst a) (.int k) st Q := by
  refine it_mlst hm hs (by simp only [inI, Bool.and_eq_true, decide_eq_true_eq]; w_left) (j := k.toNat) ?_ (l4_get h0 h3) q
  have : k = 0 ∨ k = 1 ∨ k = 2 ∨ k = 3 := by w_left
  rcases this with rfl | rfl | rfl | rfl <;> rfl
theorem top_ge (S : Nat → Int) : 0 ≤ top S ∧ top S ≤ 3 := by unfold top; (repeat' split) <;> w_left
noncomputable def sgRep (o t e : Int) : Int × Int := if o = 0 then (if e < 0 ∧ t < -e then (3, -e - t) else (if 0 < e then 1 else 2, bad (if e < 0 then -e else e) t)) else (0, 0)
noncomputable def sgOne (o t e : Int) : D :=
  let rep := sgRep o t e
  let r : D := .tup [.int rep.1, .int rep.2]
  if t = 0 then .tup [.int 0, .int 0, .tup [.int 0, .int 1], r]
  else if rep.1 = 3 then .tup [.int 2, .int o, .tup [.int 1, .int 1], r]
  else .tup [.int (if 0 < e then 1 else 2), .int o, .tup [.int (if 0 < t then (if e < 0 then -e else e) else -(if e < 0 then -e else e)), .int (if 0 < t then t else -t)], r]
noncomputable def sgD (S T : Nat → Int) (e : Int) : D :=
  if e = 0 then .tup [.int 0, .int 0, .tup [.int 0, .int 1], .tup [.int 0, .int 0]]
  else if 0 < e then sgOne (top S) (S (top S).toNat) e else sgOne (top T) (T (top T).toNat) e
local macro_rules | `(tactic| cell_step) => `(tactic| (first
  | (guard_target = CallQ ..; first
    | with_reducible refine cq_in (.here (.here (.here .none))) (by w_left) c_stop ?_
    | with_reducible refine cq_in (.here (.here (.here .none))) (by w_left) c_shtop ?_
    | with_reducible refine cq_pure (by first | exact c_badness (by w_left) (by w_left) (by w_left) | exact c_quotient) (by w_left) ?_)
  | (guard_target = ItQ ..; with_reducible refine it_l4 (by dl_mem) rfl (by w_left) (by w_left) ?_)
  | fail "no step"))
theorem c_set_glue {g : Gl} {x dx a b : Addr} {nat e : Int} {S T : Nat → Int} {mu : List (Addr × Mu)} {Q : D → List (Addr × Mu) → Prop} (h1 : -268435456 < e) (h2 : e < 268435456) (h3 : ∀ i, -268435456 < S i ∧ S i < 268435456) (h4 : ∀ i, -268435456 < T i ∧ T i < 268435456) (q : Q (sgD S T e) (totM dx a b nat S T mu)) : CallW g 3 (.ref 516) [.minst 285 x dx, .int e] (totM dx a b nat S T mu) Q := by
  refine callW_def (n := 2) (dds := []) (dvs := []) rfl (by kernel_rfl) (by kernel_rfl) (fun _ _ => rfl) ?_ ?_
  · intro X s vs b a
    obtain ⟨v0, r, rfl, a0, a⟩ := a
    obtain ⟨v1, r, rfl, a1, a⟩ := a
    obtain rfl : r = [] := a
    exact BindsTo.of_eq rfl
  · intro c hsc hcn
    apply Exists.intro
    apply Exists.intro
    apply And.intro
    · cb_eq
    have t1 := top_ge S
    have t2 := top_ge T
    have s1 := h3 (top S).toNat
    have s2 := h4 (top T).toNat
    repeat' cell_step
    all_goals
      refine Eq.mp (congrArg (fun z => Q z (totM dx a b nat S T mu)) ?_) q
      simp only [sgD, sgOne, sgRep]
      (repeat' split) <;> first | rfl | (exfalso; w_left) | simp_all | (simp_all; w_left)
    
end
section
noncomputable def sg1 (o t e : Int) : Int × Int × (Int × Int) × (Int × Int) :=
  if t = 0 then (0, 0, (0, 1), sgRep o t e)
  else if (sgRep o t e).1 = 3 then (2, o, (1, 1), sgRep o t e)
  else (if 0 < e then 1 else 2, o, (if 0 < t then (if e < 0 then -e else e) else -(if e < 0 then -e else e), if 0 < t then t else -t), sgRep o t e)
noncomputable def sg4 (S T : Nat → Int) (e : Int) : Int × Int × (Int × Int) × (Int × Int) :=
  if e = 0 then (0, 0, (0, 1), (0, 0)) else if 0 < e then sg1 (top S) (S (top S).toNat) e else sg1 (top T) (T (top T).toNat) e
noncomputable abbrev pr (z : Int × Int) : D := .tup [.int z.1, .int z.2]
noncomputable abbrev d4 (z : Int × Int × (Int × Int) × (Int × Int)) : D := .tup [.int z.1, .int z.2.1, pr z.2.2.1, pr z.2.2.2]
theorem sgD_eq (S T : Nat → Int) (e : Int) : sgD S T e = d4 (sg4 S T e) := by
  have one : ∀ o t, sgOne o t e = d4 (sg1 o t e) := fun o t => by
    unfold sg1
    simp only [sgOne]
    by_cases h1 : t = 0
    · rw [if_pos h1, if_pos h1]
    · rw [if_neg h1, if_neg h1]
      by_cases h2 : (sgRep o t e).1 = 3
      · rw [if_pos h2, if_pos h2]
      · rw [if_neg h2, if_neg h2]
  unfold sgD sg4
  rw [one, one]
  (repeat' split) <;> rfl
local macro_rules | `(tactic| cell_step) => `(tactic| (first
  | (guard_target = CallQ ..; with_reducible refine cq_pure (by first | exact c_check_dimen (by w_left) (by w_left)) (by w_left) ?_)
  | fail "no step"))
theorem c_goal_size {g : Gl} {own m am : Int} {mu : List (Addr × Mu)} {Q : D → List (Addr × Mu) → Prop} (h1 : m = 0 ∨ m = 1) (h2 : dim am) (q : Q (.int (if m = 0 then am else own + am)) mu) : CallW g 3 (.ref 558) [.int own, .int m, .int am] mu Q := by
  refine callW_def (n := 2) (dds := []) (dvs := []) rfl (by kernel_rfl) (by kernel_rfl) (fun _ _ => rfl) ?_ ?_
  · intro X s vs b a
    obtain ⟨v0, r, rfl, a0, a⟩ := a
    obtain ⟨v1, r, rfl, a1, a⟩ := a
    obtain ⟨v2, r, rfl, a2, a⟩ := a
    obtain rfl : r = [] := a
    exact BindsTo.of_eq rfl
  · intro c hsc hcn
    apply Exists.intro
    apply Exists.intro
    apply And.intro
    · cb_eq
    repeat' cell_step
    all_goals simp_all

theorem c_set_box {g : Gl} {bx bdx x dx a b : Addr} {nat e : Int} {S T : Nat → Int} {k w h d : Int} {items : List D} {mu : List (Addr × Mu)} {Q : D → List (Addr × Mu) → Prop} (h1 : -268435456 < e) (h2 : e < 268435456) (h3 : ∀ i, -268435456 < S i ∧ S i < 268435456) (h4 : ∀ i, -268435456 < T i ∧ T i < 268435456) (hne : items ≠ []) (q : Q (pr (sg4 S T e).2.2.2) ((bdx, .dict boxNs (boxL k w h d (.lst items) (sg4 S T e).1 (sg4 S T e).2.1 (pr (sg4 S T e).2.2.1))) :: totM dx a b nat S T mu)) : CallW g 4 (.ref 565) [.minst 326 bx bdx, .minst 285 x dx, .int e] ((bdx, .dict boxNs (boxL k w h d (.lst items) 0 0 (.tup [.int 0, .int 1]))) :: totM dx a b nat S T mu) Q := by
  refine callW_def (n := 3) (dds := []) (dvs := []) rfl (by kernel_rfl) (by kernel_rfl) (fun _ _ => rfl) ?_ ?_
  · intro X s vs b a
    obtain ⟨v0, r, rfl, a0, a⟩ := a
    obtain ⟨v1, r, rfl, a1, a⟩ := a
    obtain ⟨v2, r, rfl, a2, a⟩ := a
    obtain rfl : r = [] := a
    exact BindsTo.of_eq rfl
  · intro c hsc hcn
    apply Exists.intro
    apply Exists.intro
    apply And.intro
    · cb_eq
    repeat' cell_step
    refine cq_in (d := d4 (sg4 S T e)) (.skip (.here (.here (.here .none)))) (by w_left) (fun q => c_set_glue h1 h2 h3 h4 (by rw [sgD_eq]; exact q)) ?_
    repeat' cell_step
    refine cq_ne_lst0 hne ?_
    repeat' cell_step
    exact q
    
end
section
theorem c_check_column {g : Gl} {ns : List Nd} {mu : List (Addr × Mu)} {Q : D → List (Addr × Mu) → Prop} (hn : ∀ n ∈ ns, n.ok) (q : Q .none mu) : CallW g 1 (.ref 495) [.lst (ns.map Nd.D)] mu Q := by
  refine callW_def (n := 0) (dds := []) (dvs := []) rfl (by kernel_rfl) (by kernel_rfl) (fun _ _ => rfl) ?_ ?_
  · intro X s vs b a
    obtain ⟨v0, r, rfl, a0, a⟩ := a
    obtain rfl : r = [] := a
    exact BindsTo.of_eq rfl
  · intro c hsc hcn
    apply Exists.intro
    apply Exists.intro
    apply And.intro
    · cb_eq
    repeat' cell_step
    refine for_fold (α := Nd) (ok := Nd.ok) (σ := Option D) (fun _ n => some n.D) (fun i xs z => ⟨[(Str.ofString "items", some (.lst (ns.map Nd.D))), (Str.ofString "node", z)], [], (_, .itL i (xs.map Nd.D)) :: mu⟩) _ ?hs ?hn ns 0 none hn rfl
    case hn =>
      intro i
      refine for_step (nx_list_end .here (by assumption) ?_)
      repeat' cell_step
      exact q
    case hs =>
      intro i n xs z hok ih
      refine for_step (nx_list rfl .here .here ?_)
      have hk : n.kind = 2 ∨ n.kind = 3 ∨ n.kind = 4 ∨ n.kind = 5 ∨ n.kind = 6 ∨ n.kind = 7 ∨ n.kind = 14 := by
        cases n <;> first | (simp only [Nd.kind, Nd.ok] at hok ⊢; w_left) | simp [Nd.kind]
      repeat' cell_step
      exact ih
    
end
section
noncomputable def cnStep (z : Ln) (n : Nd) : Ln :=
  let w' := if n.ac > z.h then n.ac else z.h
  match n with
  | .skip w .. => ⟨z.nat + z.d + w, upS n z.S, upT n z.T, w', 0, some n.D⟩
  | .kern w => ⟨z.nat + (z.d + w), z.S, z.T, w', 0, some n.D⟩
  | .pen _ => ⟨z.nat, z.S, z.T, w', z.d, some n.D⟩
  | _ => ⟨z.nat + (z.d + n.ht), z.S, z.T, w', n.dp, some n.D⟩
local macro_rules | `(tactic| cell_step) => `(tactic| (first
  | (guard_target = CallQ ..; first
    | with_reducible refine cq_pure (by first | exact c_across (by assumption) | exact c_height_of (by assumption) | exact c_depth_of (by assumption)) (by w_left) ?_
    | with_reducible refine cq_in (.skip (.here (.here (.here .none)))) (by w_left) c_widen ?_)
  | fail "no step"))
theorem c_natural_column {g : Gl} {ns : List Nd} {mu : List (Addr × Mu)} {Q : D → List (Addr × Mu) → Prop} (hn : ∀ n ∈ ns, n.fine) (q : ∀ x dx a b o, Q (.tup [.minst 285 x dx, .int (ns.foldl cnStep ⟨0, fun _ => 0, fun _ => 0, 0, 0, o⟩).h, .int (ns.foldl cnStep ⟨0, fun _ => 0, fun _ => 0, 0, 0, o⟩).d]) (totM dx a b (ns.foldl cnStep ⟨0, fun _ => 0, fun _ => 0, 0, 0, o⟩).nat (ns.foldl cnStep ⟨0, fun _ => 0, fun _ => 0, 0, 0, o⟩).S (ns.foldl cnStep ⟨0, fun _ => 0, fun _ => 0, 0, 0, o⟩).T mu)) : CallW g 5 (.ref 502) [.lst (ns.map Nd.D)] mu Q := by
  refine callW_def (n := 4) (dds := []) (dvs := []) rfl (by kernel_rfl) (by kernel_rfl) (fun _ _ => rfl) ?_ ?_
  · intro X s vs b a
    obtain ⟨v0, r, rfl, a0, a⟩ := a
    obtain rfl : r = [] := a
    exact BindsTo.of_eq rfl
  · intro c hsc hcn
    apply Exists.intro
    apply Exists.intro
    apply And.intro
    · cb_eq
    repeat' cell_step
    refine cq_pure (c_check_column fun n h => (hn n h).1) (by w_left) ?_
    repeat' cell_step
    refine cq_call .none (by w_left) (c_Totm (fun x dx a b _ => ?_))
    simp only [List.cons_append, List.nil_append]
    repeat' cell_step
    refine for_fold (α := Nd) (ok := Nd.fine) cnStep (fun i xs z => ⟨[(Str.ofString "items", some (.lst (ns.map Nd.D))), (Str.ofString "totals", some (.minst 285 x dx)), (Str.ofString "width", some (.int z.h)), (Str.ofString "depth", some (.int z.d)), (Str.ofString "node", z.o)], [], (_, .itL i (xs.map Nd.D)) :: totM dx a b z.nat z.S z.T mu⟩) _ ?hs ?hn ns 0 ⟨0, fun _ => 0, fun _ => 0, 0, 0, none⟩ hn rfl
    case hn =>
      intro i
      refine for_step (nx_list_end .here (by assumption) ?_)
      repeat' cell_step
      exact q _ _ _ _ _
    case hs =>
      intro i n xs z hn' ih
      have hok := hn'.1
      refine for_step (nx_list rfl .here .here ?_)
      repeat' cell_step
      · obtain ⟨w, st, so, sh, sho, rfl⟩ := skip_of hok (by assumption)
        repeat' cell_step
        refine cq_in (.skip (.here (.here (.here .none)))) (by w_left) (c_add hn'.2.1 hn'.2.2.1 hn'.2.2.2.1 hn'.2.2.2.2) ?_
        repeat' cell_step
        exact ih
      all_goals cases n
      all_goals fin_range
      all_goals exact ih
    
end
section
/-! sums over nodes -/
noncomputable def sumN (p : Nd → Int) (ns : List Nd) : Int := (ns.map p).sum
theorem sumN_nil {p : Nd → Int} : sumN p [] = 0 := rfl
theorem sumN_cons {p : Nd → Int} {n : Nd} {ns : List Nd} : sumN p (n :: ns) = p n + sumN p ns := rfl
theorem sumN_app {p : Nd → Int} {xs ys : List Nd} : sumN p (xs ++ ys) = sumN p xs + sumN p ys := by
  unfold sumN; rw [List.map_append, List.sum_append]
noncomputable def Nd.cS (i : Nat) : Nd → Int
  | .skip _ st so _ _ => if i = (if st = 0 then 0 else so).toNat then st else 0
  | _ => 0
noncomputable def Nd.cT (i : Nat) : Nd → Int
  | .skip _ _ _ sh sho => if i = (if sh = 0 then 0 else sho).toNat then sh else 0
  | _ => 0
/-- a part's size in a column -/
noncomputable def Nd.pv : Nd → Int
  | .skip w _ _ _ _ => w
  | .kern w => w
  | .pen _ => 0
  | n => n.ht + n.dp
theorem upS_eq (n : Nd) (S : Nat → Int) : upS n S = fun i => S i + n.cS i := by
  funext i
  cases n <;> simp only [upS, Nd.cS] <;> first | (split <;> w_left) | simp
theorem upT_eq (n : Nd) (S : Nat → Int) : upT n S = fun i => S i + n.cT i := by
  funext i
  cases n <;> simp only [upT, Nd.cT] <;> first | (split <;> w_left) | simp
theorem ln_nat : ∀ (ns : List Nd) (z : Ln), (ns.foldl lnStep z).nat = z.nat + sumN Nd.wd ns
  | [], z => by simp [sumN]
  | n :: ns, z => by
    rw [List.foldl_cons, ln_nat ns, sumN_cons]
    simp only [lnStep]; w_left
theorem ln_S : ∀ (ns : List Nd) (z : Ln), (ns.foldl lnStep z).S = fun i => z.S i + sumN (Nd.cS i) ns
  | [], z => by simp [sumN]
  | n :: ns, z => by
    rw [List.foldl_cons, ln_S ns]
    simp only [lnStep, upS_eq, sumN_cons]
    funext i; w_left
theorem ln_T : ∀ (ns : List Nd) (z : Ln), (ns.foldl lnStep z).T = fun i => z.T i + sumN (Nd.cT i) ns
  | [], z => by simp [sumN]
  | n :: ns, z => by
    rw [List.foldl_cons, ln_T ns]
    simp only [lnStep, upT_eq, sumN_cons]
    funext i; w_left
/-- the greatest -/
structure Gr (p : Nd → Int) (ns : List Nd) (M : Int) : Prop where
  pos : 0 ≤ M
  le : ∀ n ∈ ns, p n ≤ M
  is : M = 0 ∨ ∃ n ∈ ns, p n = M
theorem max_fold (p : Nd → Int) (f : Ln → Nd → Ln) (r : Ln → Int) (hf : ∀ z n, r (f z n) = if p n > r z then p n else r z) {M : Int} : ∀ (ns : List Nd) (z : Ln), r z ≤ M → (∀ n ∈ ns, p n ≤ M) → (r z = M ∨ ∃ n ∈ ns, p n = M) → r (ns.foldl f z) = M
  | [], z, _, _, h => by
    rcases h with h | ⟨n, h, _⟩
    · exact h
    · cases h
  | n :: ns, z, h1, h2, h3 => by
    rw [List.foldl_cons]
    have hn := h2 n (.head _)
    refine max_fold p f r hf ns _ ?_ (fun m hm => h2 m (.tail _ hm)) ?_
    · rw [hf]; split <;> w_left
    · rcases h3 with h | ⟨m, hm, e⟩
      · left; rw [hf, if_neg (by w_left)]; exact h
      · rcases List.mem_cons.mp hm with rfl | hm
        · left; rw [hf]; split <;> w_left
        · exact .inr ⟨m, hm, e⟩
theorem Gr.fold {p : Nd → Int} {ns : List Nd} {M : Int} (G : Gr p ns M) (f : Ln → Nd → Ln) (r : Ln → Int) (hf : ∀ z n, r (f z n) = if p n > r z then p n else r z) (z : Ln) (hz : r z = 0) : r (ns.foldl f z) = M :=
  max_fold p f r hf ns z (by rw [hz]; exact G.pos) G.le (G.is.imp (fun h => by rw [hz, h]) id)
theorem ln_h {ns : List Nd} {M : Int} (G : Gr Nd.ht ns M) (z : Ln) (hz : z.h = 0) : (ns.foldl lnStep z).h = M := G.fold lnStep Ln.h (fun z n => rfl) z hz
theorem ln_d {ns : List Nd} {M : Int} (G : Gr Nd.dp ns M) (z : Ln) (hz : z.d = 0) : (ns.foldl lnStep z).d = M := G.fold lnStep Ln.d (fun z n => rfl) z hz
theorem cn_h {ns : List Nd} {M : Int} (G : Gr Nd.ac ns M) (z : Ln) (hz : z.h = 0) : (ns.foldl cnStep z).h = M := G.fold cnStep Ln.h (fun z n => by cases n <;> rfl) z hz
theorem cn_S : ∀ (ns : List Nd) (z : Ln), (ns.foldl cnStep z).S = fun i => z.S i + sumN (Nd.cS i) ns
  | [], z => by simp [sumN]
  | n :: ns, z => by
    rw [List.foldl_cons, cn_S ns]
    funext i
    cases n <;> simp only [cnStep, upS_eq, sumN_cons, Nd.cS] <;> w_left
theorem cn_T : ∀ (ns : List Nd) (z : Ln), (ns.foldl cnStep z).T = fun i => z.T i + sumN (Nd.cT i) ns
  | [], z => by simp [sumN]
  | n :: ns, z => by
    rw [List.foldl_cons, cn_T ns]
    funext i
    cases n <;> simp only [cnStep, upT_eq, sumN_cons, Nd.cT] <;> w_left
/-- a column's last depth -/
noncomputable def dl1 (d : Int) : Nd → Int
  | .skip .. => 0
  | .kern _ => 0
  | .pen _ => d
  | n => n.dp
theorem cn_d : ∀ (ns : List Nd) (z : Ln), (ns.foldl cnStep z).d = ns.foldl dl1 z.d
  | [], z => rfl
  | n :: ns, z => by
    rw [List.foldl_cons, List.foldl_cons, cn_d ns]
    cases n <;> rfl
theorem cn_nat : ∀ (ns : List Nd) (z : Ln), (ns.foldl cnStep z).nat + (ns.foldl cnStep z).d = z.nat + z.d + sumN Nd.pv ns
  | [], z => by simp [sumN]
  | n :: ns, z => by
    rw [List.foldl_cons, cn_nat ns, sumN_cons]
    cases n <;> simp only [cnStep, Nd.pv] <;> w_left
theorem c_nline {g : Gl} {ns : List Nd} {mu : List (Addr × Mu)} {Q : D → List (Addr × Mu) → Prop} {nat H E : Int} {S T : Nat → Int} (hn : ∀ n ∈ ns, n.fine) (hnat : sumN Nd.wd ns = nat) (hS : ∀ i, sumN (Nd.cS i) ns = S i) (hT : ∀ i, sumN (Nd.cT i) ns = T i)
    (hH : Gr Nd.ht ns H) (hD : Gr Nd.dp ns E) (q : ∀ x dx a b, Q (.tup [.minst 285 x dx, .int H, .int E]) (totM dx a b nat S T mu)) : CallW g 5 (.ref 481) [.lst (ns.map Nd.D)] mu Q :=
  c_natural_line (mu := mu) hn fun x dx a b o => by
    rw [ln_h hH _ rfl, ln_d hD _ rfl, ln_nat, ln_S, ln_T]
    have e1 : (fun i => sumN (Nd.cS i) ns) = S := funext hS
    have e2 : (fun i => sumN (Nd.cT i) ns) = T := funext hT
    simp only [Int.zero_add, e1, e2, hnat]
    exact q x dx a b
theorem c_ncol {g : Gl} {ns : List Nd} {mu : List (Addr × Mu)} {Q : D → List (Addr × Mu) → Prop} {nat W E : Int} {S T : Nat → Int} (hn : ∀ n ∈ ns, n.fine) (hnat : sumN Nd.pv ns = nat + E) (hS : ∀ i, sumN (Nd.cS i) ns = S i) (hT : ∀ i, sumN (Nd.cT i) ns = T i)
    (hH : Gr Nd.ac ns W) (hD : ns.foldl dl1 0 = E) (q : ∀ x dx a b, Q (.tup [.minst 285 x dx, .int W, .int E]) (totM dx a b nat S T mu)) : CallW g 5 (.ref 502) [.lst (ns.map Nd.D)] mu Q :=
  c_natural_column hn fun x dx a b o => by
    have e3 := cn_nat ns ⟨0, fun _ => 0, fun _ => 0, 0, 0, o⟩
    rw [cn_d, hD, hnat] at e3
    have e4 : (ns.foldl cnStep ⟨0, fun _ => 0, fun _ => 0, 0, 0, o⟩).nat = nat := by simp only at e3; w_left
    rw [cn_h hH _ rfl, cn_d, hD, e4, cn_S, cn_T]
    have e1 : (fun i => sumN (Nd.cS i) ns) = S := funext hS
    have e2 : (fun i => sumN (Nd.cT i) ns) = T := funext hT
    simp only [Int.zero_add, e1, e2]
    exact q x dx a b
noncomputable abbrev packR (k W H E : Int) (its : List Nd) (z : Int × Int × (Int × Int) × (Int × Int)) : D := .tup [boxD k W H E (.lst (its.map Nd.D)) z.1 z.2.1 (pr z.2.2.1), pr z.2.2.2]
noncomputable abbrev sml (v : Int) : Prop := -268435456 < v ∧ v < 268435456
theorem map_ne {ns : List Nd} (h : ns ≠ []) : ns.map Nd.D ≠ [] := fun e => h (List.map_eq_nil_iff.mp e)
section
local macro_rules | `(tactic| cell_step) => `(tactic| (first
  | (guard_target = CallQ ..; with_reducible refine cq_pure (by first | exact c_check_dimen (by w_left) (by w_left) | exact c_goal_size (by assumption) (by assumption)) (by w_left) ?_)
  | (guard_target = XW1 _ _ (.Return _ _) ..; with_reducible refine xw_retz ?_)
  | fail "no step"))
theorem c_hpack {g : Gl} {ns : List Nd} {m am nat W H E : Int} {S T : Nat → Int} {mu : List (Addr × Mu)} {Q : D → List (Addr × Mu) → Prop} (hn : ∀ n ∈ ns, n.fine) (hne : ns ≠ []) (hm : m = 0 ∨ m = 1) (ham : dim am) (hnat : sumN Nd.wd ns = nat) (hS : ∀ i, sumN (Nd.cS i) ns = S i) (hT : ∀ i, sumN (Nd.cT i) ns = T i) (hH : Gr Nd.ht ns H) (hD : Gr Nd.dp ns E) (hW : (if m = 0 then am else nat + am) = W) (bW : dim W) (bH : dim H) (bE : dim E) (be : sml (W - nat)) (bS : ∀ i, sml (S i)) (bT : ∀ i, sml (T i)) (q : Q (packR 2 W H E ns (sg4 S T (W - nat))) mu) : CallW g 6 (.ref 573) [.lst (ns.map Nd.D), .int m, .int am] mu Q := by
  refine CallW.drop ?_
  refine callW_def (n := 5) (dds := [.none]) (dvs := [.none]) rfl (by kernel_rfl) (by kernel_rfl) (fun _ _ => ⟨_, _, rfl, rfl, rfl⟩) ?_ ?_
  · intro X s vs b a
    obtain ⟨v0, r, rfl, a0, a⟩ := a
    obtain ⟨v1, r, rfl, a1, a⟩ := a
    obtain ⟨v2, r, rfl, a2, a⟩ := a
    obtain rfl : r = [] := a
    exact BindsTo.of_defaults rfl (b.kx _ _ rfl) rfl rfl rfl
  · intro c hsc hcn
    apply Exists.intro
    apply Exists.intro
    apply And.intro
    · cb_eq
    repeat' cell_step
    refine cq_call .none (by w_left) (c_nline hn hnat hS hT hH hD fun x dx a b _ => ?_)
    simp only [List.cons_append, List.nil_append]
    repeat' cell_step
    rw [hW]
    repeat' cell_step
    refine cq_call .none (by w_left) (c_Boxm bW bH bE (by w_left) (by w_left) (fun bx bdx hf => ?_))
    have hfx : ¬ c.Xc bdx := (hf _ (.head _)).resolve_left (by simp)
    simp only [List.cons_append, List.nil_append]
    repeat' cell_step
    refine cq_in (.here (.here (.here (.here .none)))) (by w_left) (c_set_box be.1 be.2 bS bT (map_ne hne)) ?_
    repeat' cell_step
    refine ⟨_, _, _, _, .here, hfx, .tup (.cons (.inst rfl) (.cons .same .nil)), ?_⟩
    exact .inl ⟨_, rfl, _, List.sublist_append_right [_, _, _] _, q⟩

theorem c_vpack {g : Gl} {ns : List Nd} {m am most nat W H E : Int} {S T : Nat → Int} {mu : List (Addr × Mu)} {Q : D → List (Addr × Mu) → Prop} (hn : ∀ n ∈ ns, n.fine) (hne : ns ≠ []) (hm : m = 0 ∨ m = 1) (ham : dim am) (hmo : dim most) (hnat : sumN Nd.pv ns = nat + E) (hS : ∀ i, sumN (Nd.cS i) ns = S i) (hT : ∀ i, sumN (Nd.cT i) ns = T i) (hW : Gr Nd.ac ns W) (hD : (if most < ns.foldl dl1 0 then most else ns.foldl dl1 0) = E) (hH : (if m = 0 then am else nat + am) = H) (bW : dim W) (bH : dim H) (bE : dim E) (be : sml (H - nat)) (bS : ∀ i, sml (S i)) (bT : ∀ i, sml (T i)) (q : Q (packR 3 W H E ns (sg4 S T (H - nat))) mu) : CallW g 6 (.ref 581) [.lst (ns.map Nd.D), .int m, .int am, .int most] mu Q := by
  refine CallW.drop ?_
  refine callW_def (n := 5) (dds := []) (dvs := []) rfl (by kernel_rfl) (by kernel_rfl) (fun _ _ => rfl) ?_ ?_
  · intro X s vs b a
    obtain ⟨v0, r, rfl, a0, a⟩ := a
    obtain ⟨v1, r, rfl, a1, a⟩ := a
    obtain ⟨v2, r, rfl, a2, a⟩ := a
    obtain ⟨v3, r, rfl, a3, a⟩ := a
    obtain rfl : r = [] := a
    exact BindsTo.of_defaults rfl (b.kx _ _ rfl) rfl rfl rfl
  · intro c hsc hcn
    apply Exists.intro
    apply Exists.intro
    apply And.intro
    · cb_eq
    repeat' cell_step
    refine cq_call .none (by w_left) (c_ncol (nat := nat + E - ns.foldl dl1 0) hn (by w_left) hS hT hW rfl fun x dx a b _ => ?_)
    simp only [List.cons_append, List.nil_append]
    repeat' cell_step
    all_goals
      first | rw [if_pos (by assumption)] at hD | rw [if_neg (by assumption)] at hD
      subst hD
    · refine cq_in (.here (.here (.here .none))) (by w_left) c_widen ?_
      repeat' cell_step
      have hnn : nat + most - ns.foldl dl1 0 + (ns.foldl dl1 0 - most) = nat := by w_left
      rw [hnn, hH]
      repeat' cell_step
      refine cq_call .none (by w_left) (c_Boxm bW bH bE (by w_left) (by w_left) (fun bx bdx hf => ?_))
      have hfx : ¬ c.Xc bdx := (hf _ (.head _)).resolve_left (by simp)
      simp only [List.cons_append, List.nil_append]
      repeat' cell_step
      refine cq_in (.here (.here (.here (.here .none)))) (by w_left) (c_set_box be.1 be.2 bS bT (map_ne hne)) ?_
      repeat' cell_step
      refine ⟨_, _, _, _, .here, hfx, .tup (.cons (.inst rfl) (.cons .same .nil)), ?_⟩
      exact .inl ⟨_, rfl, _, List.sublist_append_right [_, _, _] _, q⟩
    · have hnn : nat + ns.foldl dl1 0 - ns.foldl dl1 0 = nat := by w_left
      rw [hnn, hH]
      repeat' cell_step
      refine cq_call .none (by w_left) (c_Boxm bW bH bE (by w_left) (by w_left) (fun bx bdx hf => ?_))
      have hfx : ¬ c.Xc bdx := (hf _ (.head _)).resolve_left (by simp)
      simp only [List.cons_append, List.nil_append]
      repeat' cell_step
      refine cq_in (.here (.here (.here (.here .none)))) (by w_left) (c_set_box be.1 be.2 bS bT (map_ne hne)) ?_
      repeat' cell_step
      refine ⟨_, _, _, _, .here, hfx, .tup (.cons (.inst rfl) (.cons .same .nil)), ?_⟩
      exact .inl ⟨_, rfl, _, List.sublist_append_right [_, _, _] _, q⟩
    end
    
end
section
/-! places -/
noncomputable def flN (sg od : Int) : Nd → Int
  | .skip _ st so sh sho => flexI sg od st so sh sho
  | _ => 0
noncomputable def szN (k : Int) (n : Nd) : Int := if k = 2 then n.wd else n.pv
noncomputable def plc (k sg od up dn : Int) (ns : List Nd) : Int := sumN (szN k) ns + rnd (up * sumN (flN sg od) ns) dn
set_option genInjectivity false in
set_option genSizeOf false in
structure Pl where
  i : Nat
  fixed : Int
  flexed : Int
  found : List Int
  o : Option D
structure PlI (k sg od up dn : Int) (ns xs : List Nd) (z : Pl) : Prop where
  ex : ∃ done, ns = done ++ xs ∧ z.fixed = sumN (szN k) done ∧ z.flexed = sumN (flN sg od) done ∧ z.found = (List.range (done.length + 1)).map fun i => plc k sg od up dn (ns.take i)
theorem rnd_zero {up dn : Int} (h : 0 < dn) : rnd (up * 0) dn = 0 := by
  unfold rnd
  rw [Int.mul_zero, if_neg (by w_left), Int.fdiv_eq_ediv_of_nonneg _ (by w_left)]
  exact Int.ediv_eq_zero_of_lt (by w_left) (by w_left)
theorem PlI.init {k sg od up dn : Int} {ns : List Nd} {o : Option D} (h : 0 < dn) : PlI k sg od up dn ns ns ⟨0, 0, 0, [0], o⟩ :=
  ⟨[], rfl, rfl, rfl, by
    show [0] = [0 + rnd (up * 0) dn]
    rw [rnd_zero h]; rfl⟩
theorem PlI.step {k sg od up dn : Int} {ns xs : List Nd} {n : Nd} {z : Pl} {i : Nat} {o : Option D} (h : PlI k sg od up dn ns (n :: xs) z) :
    PlI k sg od up dn ns xs ⟨i, z.fixed + szN k n, z.flexed + flN sg od n, z.found ++ [z.fixed + szN k n + rnd (up * (z.flexed + flN sg od n)) dn], o⟩ := by
  obtain ⟨done, e, h1, h2, h3⟩ := h
  refine ⟨done ++ [n], by rw [e, List.append_assoc]; rfl, by rw [sumN_app, h1]; simp [sumN], by rw [sumN_app, h2]; simp [sumN], ?_⟩
  simp only
  rw [List.length_append, List.length_singleton, List.range_succ, List.map_append, h3, List.map_singleton]
  congr 2
  have et : ns.take (done.length + 1) = done ++ [n] := by rw [e, List.take_append, List.take_of_length_le (by w_left)]; simp
  rw [et, plc, sumN_app, sumN_app, h1, h2]
  simp [sumN]
local macro_rules | `(tactic| cell_step) => `(tactic| (first
  | (guard_target = CallQ ..; with_reducible refine cq_pure (by first | exact c_part_size (by assumption)) (by w_left) ?_)
  | (guard_target = XW1 _ _ (.Return _ _) ..; with_reducible refine xw_retz ?_)
  | (guard_target = EW _ _ (.List _ _) ..; with_reducible refine ew_mlst rfl ?_)
  | fail "no step"))
theorem c_places {g : Gl} {k W H E sg od up dn : Int} {ns : List Nd} {mu : List (Addr × Mu)} {Q : D → List (Addr × Mu) → Prop} (hn : ∀ n ∈ ns, n.fine) (hk : k = 2 ∨ k = 3) (hz : ns.length ≤ 1000) (h1 : 0 < dn) (h2 : dn < 268435456) (hb : ∀ a b, ns = a ++ b → -(2 ^ 60) < sumN (flN sg od) a ∧ sumN (flN sg od) a < 2 ^ 60) (q : Q (.lst (((List.range (ns.length + 1)).map fun i => plc k sg od up dn (ns.take i)).map D.int)) mu) : CallW g 4 (.ref 544) [boxD k W H E (.lst (ns.map Nd.D)) sg od (pr (up, dn))] mu Q := by
  refine callW_def (n := 3) (dds := []) (dvs := []) rfl (by kernel_rfl) (by kernel_rfl) (fun _ _ => rfl) ?_ ?_
  · intro X s vs b a
    obtain ⟨v0, r, rfl, a0, a⟩ := a
    obtain rfl : r = [] := a
    exact BindsTo.of_eq rfl
  · intro c hsc hcn
    apply Exists.intro
    apply Exists.intro
    apply And.intro
    · cb_eq
    refine xw_same ?_ ?_
    · repeat' cell_step
      · refine cq_pure (c_check_column fun n h => (hn n h).1) (by w_left) ?_
        repeat' cell_step
        rfl
      · repeat' cell_step
        rfl
    repeat' cell_step
    intro fa hfa
    repeat' cell_step
    rename_i it hit
    refine for_inv (α := Nd) (σ := Pl) (fun xs z => ⟨[(Str.ofString "box", some (boxD k W H E (.lst (ns.map Nd.D)) sg od (pr (up, dn)))), (Str.ofString "found", some (.mlst fa)), (Str.ofString "fixed", some (.int z.fixed)), (Str.ofString "flexed", some (.int z.flexed)), (Str.ofString "node", z.o)], [], (it, .itL z.i (xs.map Nd.D)) :: (fa, .lst (z.found.map D.int)) :: mu⟩) (PlI k sg od up dn ns) ?hs ?hn ns ⟨0, 0, 0, [0], none⟩ (PlI.init h1)
    case hn =>
      intro z hz'
      obtain ⟨done, e, hx, hy, hf⟩ := hz'
      rw [List.append_nil] at e
      subst e
      refine for_step (nx_list_end .here hit ?_)
      repeat' cell_step
      refine ⟨_, _, _, _, .here, hfa, .one (.lst rfl), ?_⟩
      repeat' cell_step
      rw [hf]
      exact q
    case hs =>
      intro n xs z hz' ih
      have hnf : n.fine := by
        obtain ⟨done, e, _⟩ := hz'
        exact hn n (by rw [e]; exact List.mem_append_right _ (.head _))
      have hok := hnf.1
      have hbz : -(2 ^ 60) < z.flexed + flN sg od n ∧ z.flexed + flN sg od n < 2 ^ 60 := by
        obtain ⟨done, e, hx, hy, hf⟩ := hz'
        have := hb (done ++ [n]) xs (by rw [e, List.append_assoc]; rfl)
        rw [sumN_app, ← hy] at this
        simpa [sumN] using this
      have hst := fun i o => ih _ (hz'.step (i := i) (o := o))
      have hlen : z.found.length ≤ 2 ^ 24 := by
        obtain ⟨done, e, hx, hy, hf⟩ := hz'
        rw [hf, List.length_map, List.length_range]
        have := congrArg List.length e
        rw [List.length_append] at this
        w_left
      refine for_step (nx_list rfl .here .here ?_)
      refine as_name ⟨_, .loc (by dl_mem), ?_⟩
      refine xw_join ⟨[(Str.ofString "box", some (boxD k W H E (.lst (ns.map Nd.D)) sg od (pr (up, dn)))), (Str.ofString "found", some (.mlst fa)), (Str.ofString "fixed", some (.int (z.fixed + szN k n))), (Str.ofString "flexed", some (.int (z.flexed + flN sg od n))), (Str.ofString "node", some n.D)], [], (it, .itL (z.i + 1) (xs.map Nd.D)) :: (fa, .lst (z.found.map D.int)) :: mu⟩ ?_ ?_
      · repeat' cell_step
        · obtain ⟨w, st, so, sh, sho, rfl⟩ := skip_of hok (by assumption)
          repeat' cell_step
          refine cq_pure c_flex (by w_left) ?_
          repeat' cell_step
          have hs : szN k (.skip w st so sh sho) = w := by unfold szN; split <;> rfl
          rw [hs]
          rfl
        · have hs : (if k = 2 then n.wd else n.vs) = szN k n := by
            unfold szN
            cases n <;> first | rfl | (exfalso; simp only [Nd.kind, not_true_eq_false] at *; done) | (split <;> simp [Nd.pv, Nd.vs, Nd.ht, Nd.dp])
          have hf : flN sg od n = 0 := by
            cases n <;> first | rfl | (exfalso; simp only [Nd.kind, not_true_eq_false] at *; done)
          rw [hs, hf, Int.add_zero]
      · repeat' cell_step
        refine cq_pure (c_set_part h1 h2 hbz.1 hbz.2) (by w_left) ?_
        repeat' cell_step
        refine cq_append (.there .here) (by rw [List.length_map]; exact hlen) (.there .here) ?_
        repeat' cell_step
        have he : z.found.map D.int ++ [D.int (z.fixed + szN k n + rnd (up * (z.flexed + flN sg od n)) dn)] = (z.found ++ [z.fixed + szN k n + rnd (up * (z.flexed + flN sg od n)) dn]).map D.int := by rw [List.map_append]; rfl
        rw [he]
        exact hst _ _
    
end
section
/-! the draws -/
/-- not below 0, hidden from the arithmetic of the walks -/
noncomputable def Nn (a : Int) : Prop := 0 ≤ a
noncomputable abbrev bxM (bx : Addr) (a b : Int) : List (Addr × Mu) := [(bx, .lst [.int a, .int b])]
noncomputable def BoxW (g : Gl) (n : Nat) (f : Value) (bx : Addr) (ds : List D) (P : D → Prop) : Prop :=
  ∀ a b, Nn a → Nn b → ∀ Q : D → List (Addr × Mu) → Prop, (∀ d a' b', P d → Nn a' → Nn b' → Q d (bxM bx a' b')) → CallW g n f (.mlst bx :: ds) (bxM bx a b) Q
inductive BxP (bx : Addr) (a b : Int) : List (Addr × Mu) → (Int → Int → List (Addr × Mu)) → Prop
  | here {l} : BxP bx a b ((bx, .lst [.int a, .int b]) :: l) (fun a' b' => (bx, .lst [.int a', .int b']) :: l)
  | there {p l f} : BxP bx a b l f → BxP bx a b (p :: l) (fun a' b' => p :: f a' b')
theorem BxP.ex {bx : Addr} {a b : Int} {mu : List (Addr × Mu)} {f : Int → Int → List (Addr × Mu)} (h : BxP bx a b mu f) : ∃ rest, Ex mu (bxM bx a b) rest ∧ ∀ a' b', (bxM bx a' b' ++ rest).Perm (f a' b') := by
  induction h with
  | here => exact ⟨_, .here .none, fun _ _ => .refl _⟩
  | @there p l f _ ih =>
    obtain ⟨rest, e, q⟩ := ih
    exact ⟨p :: rest, .skip e, fun a' b' => (List.Perm.swap _ _ _).trans ((q a' b').cons p)⟩
theorem cq_box {g : Gl} {c : Ctx} {n : Nat} {f : Value} {bx : Addr} {ds : List D} {P : D → Prop} {a b : Int} {l cl mu mf} {Q : D → St → Prop} (h : BoxW g n f bx ds P) (hb : BxP bx a b mu mf) (hn : n ≤ c.n) (h1 : Nn a) (h2 : Nn b)
    (q : ∀ d a' b', P d → Nn a' → Nn b' → Q d ⟨l, cl, mf a' b'⟩) : CallQ g c f (.mlst bx :: ds) ⟨l, cl, mu⟩ Q := by
  obtain ⟨rest, e, p⟩ := hb.ex
  intro X s vs k as
  refine cq_call e hn (h a b h1 h2 _ fun d a' b' hd h1' h2' _ => ?_) X s vs k as (Q := fun d st' => ∃ a' b', P d ∧ Nn a' ∧ Nn b' ∧ st' = ⟨l, cl, bxM bx a' b' ++ rest⟩) |> fun z => wpAny_mono z (fun v s' ⟨d, st', X', k', m', a', ⟨x, y, hd, hx, hy, e⟩⟩ => ?_) fun _ _ z => z
  · exact ⟨a', b', hd, h1', h2', rfl⟩
  · subst e
    exact ⟨d, _, X', k'.perm (p x y), m', a', q d x y hd hx hy⟩
/-- a value in bounds -/
noncomputable abbrev InR (lo hi : Int) (d : D) : Prop := ∃ i, d = .int i ∧ lo ≤ i ∧ i ≤ hi
theorem fm {a m : Int} (h : 0 < m) : 0 ≤ a.fmod m ∧ a.fmod m ≤ m - 1 := by
  rw [Int.fmod_eq_emod_of_nonneg _ (by w_left)]
  exact ⟨Int.emod_nonneg _ (by w_left), by have := Int.emod_lt_of_pos a h; w_left⟩
theorem fd {a m : Int} (h : 0 ≤ a) (hm : 0 < m) : 0 ≤ a.fdiv m := by
  rw [Int.fdiv_eq_ediv_of_nonneg _ (by w_left)]
  exact Int.ediv_nonneg h (by w_left)
theorem si_0 {g : Gl} {c : Ctx} {a : Addr} {x y d : D} {l cl mu mu'} {Q : St → Prop} (hm : MLk a (.lst [x, y]) mu) (up : MUp a (.lst [d, y]) mu mu') (q : Q ⟨l, cl, mu'⟩) : SetI g c (.mlst a) (.int 0) d ⟨l, cl, mu⟩ Q :=
  si_mlst hm (by decide) (by decide) (by simp) up q
theorem si_1 {g : Gl} {c : Ctx} {a : Addr} {x y d : D} {l cl mu mu'} {Q : St → Prop} (hm : MLk a (.lst [x, y]) mu) (up : MUp a (.lst [x, d]) mu mu') (q : Q ⟨l, cl, mu'⟩) : SetI g c (.mlst a) (.int 1) d ⟨l, cl, mu⟩ Q :=
  si_mlst hm (by decide) (by decide) (by simp) up q
local macro_rules | `(tactic| cell_step) => `(tactic| first
  | (guard_target = ItQ ..; with_reducible refine it_mlst (by dl_mem) rfl rfl rfl rfl ?_)
  | (guard_target = SetI ..; with_reducible first | refine si_0 (by dl_mem) (by dl_mem) ?_ | refine si_1 (by dl_mem) (by dl_mem) ?_)
  | fail "no step")
theorem c_take {g : Gl} {bx : Addr} {a b m : Int} {Q : D → List (Addr × Mu) → Prop} (h1 : 1 ≤ m) (h2 : m ≤ 1000) (ha : Nn a) (hb : Nn b) (q : ∀ d a' b', InR 0 (m - 1) d → Nn a' → Nn b' → Q d (bxM bx a' b')) : CallW g 1 (.ref 595) [.mlst bx, .int m] (bxM bx a b) Q := by
  refine callW_def (n := 0) (dds := []) (dvs := []) rfl (by kernel_rfl) (by kernel_rfl) (fun _ _ => rfl) ?_ ?_
  · intro X s vs b a
    obtain ⟨v0, r, rfl, a0, a⟩ := a
    obtain ⟨v1, r, rfl, a1, a⟩ := a
    obtain rfl : r = [] := a
    exact BindsTo.of_eq rfl
  · intro c hsc hcn
    apply Exists.intro
    apply Exists.intro
    apply And.intro
    · cb_eq
    repeat' cell_step
    · exact q _ _ _ ⟨_, rfl, fm (by w_left)⟩ (fd ha (by w_left)) hb
    · exact q _ _ _ ⟨_, rfl, fm (by w_left)⟩ ha (fm (by w_left)).1
    theorem w_take {g : Gl} {bx : Addr} {m : Int} (h1 : 1 ≤ m) (h2 : m ≤ 1000) : BoxW g 1 (.ref 595) bx [.int m] (InR 0 (m - 1)) := fun a b ha hb Q q => c_take h1 h2 ha hb q
    theorem cq_take {g : Gl} {c : Ctx} {bx : Addr} {m a b : Int} {l cl mu mf} {Q : D → St → Prop} (hb : BxP bx a b mu mf) (hm : 1 ≤ m) (hm' : m ≤ 1000) (hn : 1 ≤ c.n) (h1 : Nn a) (h2 : Nn b)
        (q : ∀ i a' b', 0 ≤ i → i ≤ m - 1 → Nn a' → Nn b' → Q (.int i) ⟨l, cl, mf a' b'⟩) : CallQ g c (.ref 595) [.mlst bx, .int m] ⟨l, cl, mu⟩ Q :=
      cq_box (w_take hm hm') hb hn h1 h2 fun d a' b' ⟨i, e, x, y⟩ h1' h2' => e ▸ q i a' b' x y h1' h2'
    
end
local macro_rules | `(tactic| cell_step) => `(tactic| first | (guard_target = CallQ _ _ (.ref 595) ..; with_reducible refine cq_take (by dl_mem) (by w_left) (by w_left) (by w_left) (by assumption) (by assumption) ?_; intro _ _ _ _ _ _ _) | fail "no step")
section
/-! sides, flows, amounts -/
inductive Fw where
  | none | some (w st so sh sho : Int)
noncomputable abbrev Fw.D : Fw → D
  | .none => .tup []
  | .some w st so sh sho => .tup [.int w, .int st, .int so, .int sh, .int sho]
noncomputable def Fw.ok : Fw → Prop
  | .none => True
  | .some w st so sh sho => -4 ≤ w ∧ w ≤ 25 ∧ -1 ≤ st ∧ st ≤ 65536 ∧ 0 ≤ so ∧ so ≤ 3 ∧ -1 ≤ sh ∧ sh ≤ 65536 ∧ 0 ≤ sho ∧ sho ≤ 3
noncomputable abbrev amtL : List D := [.int 0, .int 1, .int 2, .int 3, .int 5, .int 12, .int (-1), .int 65536]
theorem it_amt {g : Gl} {c : Ctx} {st : St} {Q : D → St → Prop} {value slice : Expr} {i : Int} (hs : plainSlice slice = true) (h0 : 0 ≤ i) (h7 : i ≤ 7) (q : ∀ v, -1 ≤ v → v ≤ 65536 → Q (.int v) st) : ItQ g c value slice (.lst amtL) (.int i) st Q := by
  have : i = 0 ∨ i = 1 ∨ i = 2 ∨ i = 3 ∨ i = 4 ∨ i = 5 ∨ i = 6 ∨ i = 7 := by w_left
  rcases this with rfl | rfl | rfl | rfl | rfl | rfl | rfl | rfl
  all_goals exact it_lst hs (by decide) rfl rfl (q _ (by w_left) (by w_left))
noncomputable abbrev IsFw (d : D) : Prop := ∃ f : Fw, f.ok ∧ d = f.D
theorem cq_ne_fw {g : Gl} {c : Ctx} {st : St} {f : Fw} {Q : D → St → Prop} (h1 : f = .none → Q (.bool false) st) (h2 : ∀ w s o t p, f = .some w s o t p → Q (.bool true) st) : CmpQ g c .NotEq f.D (.tup []) st Q := by
  cases f with
  | none => exact cq_nsame (d := .tup []) ⟨rfl, by decide⟩ rfl (h1 rfl)
  | some w s o t p => exact cq_ne_tup0 (by simp) (h2 _ _ _ _ _ rfl)
theorem cq_eq_fw {g : Gl} {c : Ctx} {st : St} {f : Fw} {Q : D → St → Prop} (h1 : f = .none → Q (.bool true) st) (h2 : ∀ w s o t p, f = .some w s o t p → Q (.bool false) st) : CmpQ g c .Eq f.D (.tup []) st Q := by
  cases f with
  | none => exact cq_same (d := .tup []) ⟨rfl, by decide⟩ rfl (h1 rfl)
  | some w s o t p => exact cq_eq_tup0 (by simp) (h2 _ _ _ _ _ rfl)
/-! what a gap adds -/
noncomputable def Fw.w : Fw → Int
  | .none => 0
  | .some w _ _ _ _ => w
noncomputable def Fw.cS (i : Nat) : Fw → Int
  | .none => 0
  | .some _ st so _ _ => if i = so.toNat then st else 0
noncomputable def Fw.cT (i : Nat) : Fw → Int
  | .none => 0
  | .some _ _ _ sh sho => if i = sho.toNat then sh else 0
noncomputable def Fw.is : Fw → Bool
  | .none => false
  | .some .. => true
noncomputable def sumF (p : Fw → Int) (fs : List Fw) : Int := (fs.map p).sum
local macro_rules | `(tactic| cell_step) => `(tactic| first
  | (guard_target = ItQ ..; with_reducible refine it_amt rfl (by assumption) (by w_left) ?_; intro _ _ _)
  | fail "no step")
theorem c_side {g : Gl} {bx : Addr} {a b : Int} {Q : D → List (Addr × Mu) → Prop} (ha : Nn a) (hb : Nn b) (q : ∀ d a' b', InR 0 1900600 d → Nn a' → Nn b' → Q d (bxM bx a' b')) : CallW g 2 (.ref 602) [.mlst bx] (bxM bx a b) Q := by
  refine callW_def (n := 1) (dds := []) (dvs := []) rfl (by kernel_rfl) (by kernel_rfl) (fun _ _ => rfl) ?_ ?_
  · intro X s vs b a
    obtain ⟨v0, r, rfl, a0, a⟩ := a
    obtain rfl : r = [] := a
    exact BindsTo.of_eq rfl
  · intro c hsc hcn
    apply Exists.intro
    apply Exists.intro
    apply And.intro
    · cb_eq
    repeat' cell_step
    all_goals exact q _ _ _ ⟨_, rfl, by w_left, by w_left⟩ (by assumption) (by assumption)

theorem c_flow {g : Gl} {bx : Addr} {a b o : Int} {Q : D → List (Addr × Mu) → Prop} (h1 : 1 ≤ o) (h2 : o ≤ 4) (ha : Nn a) (hb : Nn b) (q : ∀ d a' b', IsFw d → Nn a' → Nn b' → Q d (bxM bx a' b')) : CallW g 2 (.ref 609) [.mlst bx, .int o] (bxM bx a b) Q := by
  refine callW_def (n := 1) (dds := []) (dvs := []) rfl (by kernel_rfl) (by kernel_rfl) (fun _ _ => rfl) ?_ ?_
  · intro X s vs b a
    obtain ⟨v0, r, rfl, a0, a⟩ := a
    obtain ⟨v1, r, rfl, a1, a⟩ := a
    obtain rfl : r = [] := a
    exact BindsTo.of_eq rfl
  · intro c hsc hcn
    apply Exists.intro
    apply Exists.intro
    apply And.intro
    · cb_eq
    repeat' cell_step

    · exact q _ _ _ ⟨.none, trivial, rfl⟩ (by assumption) (by assumption)
    · exact q _ _ _ ⟨.some _ _ _ _ _, by simp only [Fw.ok]; w_left, rfl⟩ (by assumption) (by assumption)
    theorem w_side {g : Gl} {bx : Addr} : BoxW g 2 (.ref 602) bx [] (InR 0 1900600) := fun a b ha hb Q q => c_side ha hb q
    theorem w_flow {g : Gl} {bx : Addr} {o : Int} (h1 : 1 ≤ o) (h2 : o ≤ 4) : BoxW g 2 (.ref 609) bx [.int o] IsFw := fun a b ha hb Q q => c_flow h1 h2 ha hb q
    
end
section
/-- a gap's nodes, told in one of its ways -/
structure GapOk (f : Fw) (ns : List Nd) : Prop where
  fine : ∀ n ∈ ns, n.fine
  flat : ∀ n ∈ ns, n.ht = 0 ∧ n.dp = 0 ∧ n.ac = 0 ∧ n.pv = n.wd
  few : ns.length ≤ 3
  wd : sumN Nd.wd ns = f.w
  S : ∀ i, sumN (Nd.cS i) ns = f.cS i
  T : ∀ i, sumN (Nd.cT i) ns = f.cT i
  dl : ∀ d, ns.foldl dl1 d = if f.is then 0 else d
  bS : ∀ n ∈ ns, ∀ i, -70000 ≤ n.cS i ∧ n.cS i ≤ 70000
  bT : ∀ n ∈ ns, ∀ i, -70000 ≤ n.cT i ∧ n.cT i ≤ 70000
theorem cS_skip {w st so sh sho : Int} {i : Nat} : (Nd.skip w st so sh sho).cS i = if i = so.toNat then st else 0 := by
  simp only [Nd.cS]; (repeat' split) <;> w_left
theorem cT_skip {w st so sh sho : Int} {i : Nat} : (Nd.skip w st so sh sho).cT i = if i = sho.toNat then sh else 0 := by
  simp only [Nd.cT]; (repeat' split) <;> w_left
noncomputable abbrev sm (v : Int) : Prop := -70000 ≤ v ∧ v ≤ 70000
noncomputable abbrev od4 (v : Int) : Prop := 0 ≤ v ∧ v ≤ 3
theorem fine_skip {w st so sh sho : Int} (h1 : od4 so) (h2 : od4 sho) : (Nd.skip w st so sh sho).fine := ⟨trivial, h1.1, h1.2, h2.1, h2.2⟩
theorem sm_skip {w st so sh sho : Int} (h1 : sm st) (h2 : sm sh) (i : Nat) : sm ((Nd.skip w st so sh sho).cS i) ∧ sm ((Nd.skip w st so sh sho).cT i) := by
  rw [cS_skip, cT_skip]; constructor <;> split <;> simp only [sm] at * <;> w_left
theorem gap_0 : GapOk .none [] := ⟨fun _ h => absurd h List.not_mem_nil, fun _ h => absurd h List.not_mem_nil, by simp, rfl, fun _ => rfl, fun _ => rfl, fun _ => rfl, fun _ h => absurd h List.not_mem_nil, fun _ h => absurd h List.not_mem_nil⟩
theorem gap_p {v : Int} : GapOk .none [.pen v] where
  fine := fun n hn => by rw [List.mem_singleton.mp hn]; exact ⟨trivial, trivial⟩
  flat := by simp [Nd.pv]
  few := by simp
  wd := rfl
  S := fun _ => rfl
  T := fun _ => rfl
  dl := fun _ => rfl
  bS := by simp [Nd.cS]
  bT := by simp [Nd.cT]
/-- sums over skips alone, but for a kern -/
theorem gap_1 {w st so sh sho : Int} (o1 : od4 so) (o2 : od4 sho) (b1 : sm st) (b2 : sm sh) : GapOk (.some w st so sh sho) [.skip w st so sh sho] where
  fine := by simpa using fine_skip o1 o2
  flat := by simp [Nd.pv]
  few := by simp
  wd := by simp [sumN, Fw.w]
  S := fun i => by simp only [sumN, List.map_cons, List.map_nil, List.sum_cons, List.sum_nil, cS_skip, Fw.cS]; split <;> w_left
  T := fun i => by simp only [sumN, List.map_cons, List.map_nil, List.sum_cons, List.sum_nil, cT_skip, Fw.cT]; split <;> w_left
  dl := fun _ => rfl
  bS := by simpa using fun i => (sm_skip (w := w) (so := so) (sho := sho) b1 b2 i).1
  bT := by simpa using fun i => (sm_skip (w := w) (so := so) (sho := sho) b1 b2 i).2
theorem gap_k {w st so sh sho : Int} (o1 : od4 so) (o2 : od4 sho) (b1 : sm st) (b2 : sm sh) : GapOk (.some w st so sh sho) [.kern w, .skip 0 st so sh sho] where
  fine := fun n hn => by
    simp only [List.mem_cons, List.not_mem_nil, or_false] at hn
    rcases hn with rfl | rfl
    · exact ⟨trivial, trivial⟩
    · exact fine_skip o1 o2
  flat := by simp [Nd.pv]
  few := by simp
  wd := by simp [sumN, Fw.w]
  S := fun i => by simp only [sumN, List.map_cons, List.map_nil, List.sum_cons, List.sum_nil, cS_skip, Fw.cS, Nd.cS]; (repeat' split) <;> w_left
  T := fun i => by simp only [sumN, List.map_cons, List.map_nil, List.sum_cons, List.sum_nil, cT_skip, Fw.cT, Nd.cT]; (repeat' split) <;> w_left
  dl := fun _ => rfl
  bS := by simpa [Nd.cS] using fun i => (sm_skip (w := 0) (so := so) (sho := sho) b1 b2 i).1
  bT := by simpa [Nd.cT] using fun i => (sm_skip (w := 0) (so := so) (sho := sho) b1 b2 i).2
theorem gap_2 {w st so sh sho x y z : Int} (o1 : od4 so) (o2 : od4 sho) (b1 : sm y) (b2 : sm z) (b3 : sm (st - y)) (b4 : sm (sh - z)) : GapOk (.some w st so sh sho) [.skip x y so z sho, .skip (w - x) (st - y) so (sh - z) sho] where
  fine := by simpa using ⟨fine_skip o1 o2, fine_skip o1 o2⟩
  flat := by simp [Nd.pv]
  few := by simp
  wd := by simp only [sumN, Fw.w, List.map_cons, List.map_nil, List.sum_cons, List.sum_nil, Nd.wd]; w_left
  S := fun i => by simp only [sumN, List.map_cons, List.map_nil, List.sum_cons, List.sum_nil, cS_skip, Fw.cS]; split <;> w_left
  T := fun i => by simp only [sumN, List.map_cons, List.map_nil, List.sum_cons, List.sum_nil, cT_skip, Fw.cT]; split <;> w_left
  dl := fun _ => rfl
  bS := by simpa using ⟨fun i => (sm_skip (w := x) (so := so) (sho := sho) b1 b2 i).1, fun i => (sm_skip (w := w - x) (so := so) (sho := sho) b3 b4 i).1⟩
  bT := by simpa using ⟨fun i => (sm_skip (w := x) (so := so) (sho := sho) b1 b2 i).2, fun i => (sm_skip (w := w - x) (so := so) (sho := sho) b3 b4 i).2⟩
theorem gap_3 {w st so sh sho x y z f o : Int} (o1 : od4 so) (o2 : od4 sho) (o3 : od4 f) (o4 : od4 o) (b1 : sm st) (b2 : sm sh) (b3 : sm y) (b4 : sm z) : GapOk (.some w st so sh sho) [.skip x y f z o, .skip w st so sh sho, .skip (-x) (-y) f (-z) o] where
  fine := by simpa using ⟨fine_skip o3 o4, fine_skip o1 o2, fine_skip o3 o4⟩
  flat := by simp [Nd.pv]
  few := by simp
  wd := by simp only [sumN, Fw.w, List.map_cons, List.map_nil, List.sum_cons, List.sum_nil, Nd.wd]; w_left
  S := fun i => by simp only [sumN, List.map_cons, List.map_nil, List.sum_cons, List.sum_nil, cS_skip, Fw.cS]; (repeat' split) <;> w_left
  T := fun i => by simp only [sumN, List.map_cons, List.map_nil, List.sum_cons, List.sum_nil, cT_skip, Fw.cT]; (repeat' split) <;> w_left
  dl := fun _ => rfl
  bS := by simpa using ⟨fun i => (sm_skip (w := x) (so := f) (sho := o) b3 b4 i).1, fun i => (sm_skip (w := w) (so := so) (sho := sho) b1 b2 i).1, fun i => (sm_skip (w := -x) (so := f) (sho := o) (show sm (-y) from ⟨by have := b3.2; w_left, by have := b3.1; w_left⟩) (show sm (-z) from ⟨by have := b4.2; w_left, by have := b4.1; w_left⟩) i).1⟩
  bT := by simpa using ⟨fun i => (sm_skip (w := x) (so := f) (sho := o) b3 b4 i).2, fun i => (sm_skip (w := w) (so := so) (sho := sho) b1 b2 i).2, fun i => (sm_skip (w := -x) (so := f) (sho := o) (show sm (-y) from ⟨by have := b3.2; w_left, by have := b3.1; w_left⟩) (show sm (-z) from ⟨by have := b4.2; w_left, by have := b4.1; w_left⟩) i).2⟩
theorem cq_tup00 {g : Gl} {c : Ctx} {st : St} {Q : D → St → Prop} (q : Q (.bool true) st) : CmpQ g c .Eq (.tup []) (.tup []) st Q := cq_same (d := .tup []) ⟨rfl, by decide⟩ rfl q
local macro_rules | `(tactic| cell_step) => `(tactic| (first
  | (guard_target = CallQ ..; with_reducible refine cq_pure (by first | exact c_Glue ⟨by w_left, by w_left⟩ ⟨by w_left, by w_left⟩ ⟨by w_left, by w_left⟩ (by w_left) (by w_left) (by w_left) (by w_left) | exact c_Skip | exact c_Kern ⟨by w_left, by w_left⟩ (by w_left) (by w_left) | exact c_Pen ⟨by w_left, by w_left⟩) (by w_left) ?_)
  | (guard_target = CmpQ _ _ .Eq (.tup _) (.tup []) ..; first
    | with_reducible refine cq_tup00 ?_
    | with_reducible refine cq_eq_tup0 (List.cons_ne_nil _ _) ?_)
  | fail "no step"))
theorem c_gap {g : Gl} {bx : Addr} {a b : Int} {f : Fw} {Q : D → List (Addr × Mu) → Prop} (hf : f.ok) (ha : Nn a) (hb : Nn b) (q : ∀ ns a' b', GapOk f ns → Nn a' → Nn b' → Q (.lst (ns.map Nd.D)) (bxM bx a' b')) : CallW g 5 (.ref 624) [.mlst bx, f.D] (bxM bx a b) Q := by
  refine callW_def (n := 4) (dds := []) (dvs := []) rfl (by kernel_rfl) (by kernel_rfl) (fun _ _ => rfl) ?_ ?_
  · intro X s vs b a
    obtain ⟨v0, r, rfl, a0, a⟩ := a
    obtain ⟨v1, r, rfl, a1, a⟩ := a
    obtain rfl : r = [] := a
    exact BindsTo.of_eq rfl
  · intro c hsc hcn
    apply Exists.intro
    apply Exists.intro
    apply And.intro
    · cb_eq
    cases f
    all_goals simp only [Fw.D, Fw.ok] at *
    all_goals repeat' cell_step
    all_goals first
      | exact q [.pen _] _ _ gap_p (by assumption) (by assumption)
      | exact q [] _ _ gap_0 (by assumption) (by assumption)
      | exact q [.skip _ _ _ _ _] _ _ (gap_1 ⟨by w_left, by w_left⟩ ⟨by w_left, by w_left⟩ ⟨by w_left, by w_left⟩ ⟨by w_left, by w_left⟩) (by assumption) (by assumption)
      | exact q [.kern _, .skip _ _ _ _ _] _ _ (gap_k ⟨by w_left, by w_left⟩ ⟨by w_left, by w_left⟩ ⟨by w_left, by w_left⟩ ⟨by w_left, by w_left⟩) (by assumption) (by assumption)
      | exact q [.skip _ _ _ _ _, .skip _ _ _ _ _] _ _ (gap_2 ⟨by w_left, by w_left⟩ ⟨by w_left, by w_left⟩ ⟨by w_left, by w_left⟩ ⟨by w_left, by w_left⟩ ⟨by w_left, by w_left⟩ ⟨by w_left, by w_left⟩) (by assumption) (by assumption)
      | exact q [.skip _ _ _ _ _, .skip _ _ _ _ _, .skip _ _ _ _ _] _ _ (gap_3 ⟨by w_left, by w_left⟩ ⟨by w_left, by w_left⟩ ⟨by w_left, by w_left⟩ ⟨by w_left, by w_left⟩ ⟨by w_left, by w_left⟩ ⟨by w_left, by w_left⟩ ⟨by w_left, by w_left⟩ ⟨by w_left, by w_left⟩) (by assumption) (by assumption)
    abbrev IsGap (f : Fw) (d : D) : Prop := ∃ ns : List Nd, GapOk f ns ∧ d = .lst (ns.map Nd.D)
    theorem w_gap {g : Gl} {bx : Addr} {f : Fw} (hf : f.ok) : BoxW g 5 (.ref 624) bx [f.D] (IsGap f) := fun a b ha hb Q q => c_gap hf ha hb fun ns a' b' h => q _ a' b' ⟨ns, h, rfl⟩
    
end
section
theorem sum_bd : ∀ es : List Int, (∀ e ∈ es, -1 ≤ e ∧ e ≤ 65536) → -(es.length : Int) ≤ es.sum ∧ es.sum ≤ 65536 * (es.length : Int)
  | [], _ => by simp
  | e :: es, h => by
    have h1 := h e (.head _)
    have h2 := sum_bd es fun x hx => h x (.tail _ hx)
    rw [List.sum_cons, List.length_cons]
    w_left
theorem map_snoc {es : List Int} {v : Int} : es.map D.int ++ [D.int v] = (es ++ [v]).map D.int := by rw [List.map_append]; rfl
set_option genInjectivity false in
set_option genSizeOf false in
structure Mo where
  i : Nat
  es : List Int
  o : Option D
structure MoI (fs : List Fw) (z : Mo) : Prop where
  ok : ∀ f ∈ fs, f.ok
  es : ∀ e ∈ z.es, -1 ≤ e ∧ e ≤ 65536
  len : z.es.length + fs.length ≤ 6
local macro_rules | `(tactic| cell_step) => `(tactic| (first
  | (guard_target = CmpQ _ _ .NotEq (.tup _) (.tup []) ..; with_reducible refine cq_ne_tup0 (List.cons_ne_nil _ _) ?_)
  | fail "no step"))
theorem cq_ntup00 {g : Gl} {c : Ctx} {st : St} {Q : D → St → Prop} (q : Q (.bool false) st) : CmpQ g c .NotEq (.tup []) (.tup []) st Q := cq_nsame (d := .tup []) ⟨rfl, by decide⟩ rfl q
theorem c_more {g : Gl} {bx : Addr} {a b : Int} {fs : List Fw} {Q : D → List (Addr × Mu) → Prop} (hf : ∀ f ∈ fs, f.ok) (hz : fs.length ≤ 6) (ha : Nn a) (hb : Nn b) (q : ∀ d a' b', InR (-3000000) 3000000 d → Nn a' → Nn b' → Q d (bxM bx a' b')) : CallW g 2 (.ref 614) [.mlst bx, .lst (fs.map Fw.D)] (bxM bx a b) Q := by
  refine callW_def (n := 1) (dds := []) (dvs := []) rfl (by kernel_rfl) (by kernel_rfl) (fun _ _ => rfl) ?_ ?_
  · intro X s vs b a
    obtain ⟨v0, r, rfl, a0, a⟩ := a
    obtain ⟨v1, r, rfl, a1, a⟩ := a
    obtain rfl : r = [] := a
    exact BindsTo.of_eq rfl
  · intro c hsc hcn
    apply Exists.intro
    apply Exists.intro
    apply And.intro
    · cb_eq
    repeat' cell_step
    case' refine_2.h.h.right.refine_2.refine_2.refine_2.refine_1 =>
      rename_i i a' b' p1 p2 ha' hb' x1 x2 x3 x4 it acc c' hs' hc' hit
      refine comp_inv (α := Fw) (σ := Mo) (fun xs z => ⟨[(Str.ofString ".0", none), (Str.ofString "flow", z.o)], [], (acc, .lst (z.es.map D.int)) :: (it, .itL z.i (xs.map Fw.D)) :: bxM bx a' b'⟩) MoI ?hs ?hn fs ⟨0, [], none⟩ ⟨hf, nofun, by simpa using hz⟩
      case hn =>
        intro z hI
        refine co_lend hit ?_
        have hl := hI.len
        have hs := sum_bd z.es hI.es
        simp only [List.length_nil] at hl
        repeat' cell_step
        refine cq_sum (by w_left) ?_
        repeat' cell_step
        exact q _ _ _ ⟨_, rfl, by w_left, by w_left⟩ (by assumption) (by assumption)
      case hs =>
        intro f xs z hI ih
        have hl := hI.len
        simp only [List.length_cons] at hl
        have hokx : ∀ f ∈ xs, f.ok := fun f h => hI.ok f (.tail _ h)
        have hokf := hI.ok f (.head _)
        refine co_lt rfl (by rw [List.length_map]; w_left) ?_
        cases f
        · simp only [Fw.D] at *
          repeat' cell_step
          refine cq_ntup00 ?_
          repeat' cell_step
          exact ih ⟨_, z.es, _⟩ ⟨hokx, hI.es, by show z.es.length + xs.length ≤ 6; w_left⟩
        · simp only [Fw.D, Fw.ok] at *
          repeat' cell_step
          · rw [map_snoc]
            refine ih ⟨_, z.es ++ [_], _⟩ ⟨hokx, ?_, ?_⟩
            · intro e he
              rcases List.mem_append.mp he with he | he
              · exact hI.es e he
              · rw [List.mem_singleton.mp he]; w_left
            · show (z.es ++ [_]).length + xs.length ≤ 6
              rw [List.length_append, List.length_singleton]; w_left
          · exact ih ⟨_, z.es, _⟩ ⟨hokx, hI.es, by show z.es.length + xs.length ≤ 6; w_left⟩
    all_goals exact q _ _ _ ⟨_, rfl, by w_left, by w_left⟩ (by assumption) (by assumption)
    theorem w_more {g : Gl} {bx : Addr} {fs : List Fw} (hf : ∀ f ∈ fs, f.ok) (hz : fs.length ≤ 6) : BoxW g 2 (.ref 614) bx [.lst (fs.map Fw.D)] (InR (-3000000) 3000000) := fun a b ha hb Q q => c_more hf hz ha hb q
    /-- a cell's node -/
    def cellN (k w h d : Int) : Nd := if k = 0 then .rule w h d else if k = 1 then .unset w h d else .box k w h d (.lst []) 0 0 (.tup [.int 0, .int 1])

theorem c_cell {g : Gl} {k w h d : Int} {mu : List (Addr × Mu)} {Q : D → List (Addr × Mu) → Prop} (h0 : 0 ≤ k) (h3 : k ≤ 3) (hw : dim w) (hh : dim h) (hd : dim d) (q : Q (cellN k w h d).D mu) : CallW g 5 (.ref 631) [.int k, .int w, .tup [.int h, .int d]] mu Q := by
  refine callW_def (n := 4) (dds := []) (dvs := []) rfl (by kernel_rfl) (by kernel_rfl) (fun _ _ => rfl) ?_ ?_
  · intro X s vs b a
    obtain ⟨v0, r, rfl, a0, a⟩ := a
    obtain ⟨v1, r, rfl, a1, a⟩ := a
    obtain ⟨v2, r, rfl, a2, a⟩ := a
    obtain rfl : r = [] := a
    exact BindsTo.of_eq rfl
  · intro c hsc hcn
    apply Exists.intro
    apply Exists.intro
    apply And.intro
    · cb_eq
    repeat' cell_step
    · refine cq_pure (c_Rule hw hh hd) (by w_left) ?_
      repeat' cell_step
      rename_i h
      rwa [cellN, if_pos h] at q
    · refine cq_pure c_Tot (by w_left) ?_
      repeat' cell_step
      refine cq_pure (c_Unset hw hh hd) (by w_left) ?_
      repeat' cell_step
      rename_i h h'
      rwa [cellN, if_neg h, if_pos h'] at q
    · refine cq_pure (c_Box hw hh hd (by w_left) (by w_left)) (by w_left) ?_
      repeat' cell_step
      rename_i h h'
      rwa [cellN, if_neg h, if_neg h'] at q
    
end
section
/-! a band's items -/
noncomputable def Nd.cell : Nd → Prop
  | .rule .. => True
  | .unset .. => True
  | .box k _ _ _ _ _ _ _ => 2 ≤ k ∧ k ≤ 3
  | _ => False
theorem Nd.cell.fine {n : Nd} (h : n.cell) : n.fine := by
  cases n <;> first | exact ⟨trivial, trivial⟩ | exact ⟨h, trivial⟩ | exact h.elim
structure CellF (n : Nd) : Prop where
  S : ∀ i, n.cS i = 0
  T : ∀ i, n.cT i = 0
  pv : n.pv = n.ht + n.dp
  ac : n.ac = n.wd
  dl : ∀ d, dl1 d n = n.dp
  fl : ∀ sg od, flN sg od n = 0
theorem Nd.cell.f {n : Nd} (h : n.cell) : CellF n := by
  cases n <;> first | exact ⟨fun _ => rfl, fun _ => rfl, rfl, rfl, fun _ => rfl, fun _ _ => rfl⟩ | exact h.elim
inductive Bnd : List Fw → List Nd → List Nd → List Nat → Prop
  | nil {f g} : GapOk f g → Bnd [f] [] g []
  | snoc {fs cs its at' f c g} : Bnd fs cs its at' → c.cell → GapOk f g → Bnd (fs ++ [f]) (cs ++ [c]) (its ++ [c] ++ g) (at' ++ [its.length])
theorem sumF_app {p : Fw → Int} {xs ys : List Fw} : sumF p (xs ++ ys) = sumF p xs + sumF p ys := by
  unfold sumF; rw [List.map_append, List.sum_append]
theorem sumF_one {p : Fw → Int} {x : Fw} : sumF p [x] = p x := by simp [sumF]
theorem sumN_one {p : Nd → Int} {x : Nd} : sumN p [x] = p x := by simp [sumN]
section
variable {fs : List Fw} {cs its : List Nd} {at' : List Nat}
theorem Bnd.len (b : Bnd fs cs its at') : fs.length = cs.length + 1 ∧ at'.length = cs.length := by
  induction b with
  | nil _ => exact ⟨rfl, rfl⟩
  | snoc _ _ _ ih => simp [ih.1, ih.2]
theorem Bnd.few (b : Bnd fs cs its at') : its.length ≤ 3 * fs.length + cs.length := by
  induction b with
  | nil g => have := g.few; simp; (first | lia | omega)
  | snoc _ _ g ih => have := g.few; simp; (first | lia | omega)
theorem Bnd.sum (b : Bnd fs cs its at') {p : Nd → Int} {pf : Fw → Int} (h : ∀ f g, GapOk f g → sumN p g = pf f) : sumN p its = sumF pf fs + sumN p cs := by
  induction b with
  | nil g => rw [h _ _ g, sumF_one]; simp [sumN]
  | snoc _ _ g ih => rw [sumN_app, sumN_app, sumN_app, sumF_app, sumF_one, sumN_one, h _ _ g, ih]; (first | lia | omega)
theorem Bnd.pre (b : Bnd fs cs its at') {p : Nd → Int} {pf : Fw → Int} (h : ∀ f g, GapOk f g → sumN p g = pf f) :
    ∀ k j, at'[k]? = some j → j ≤ its.length ∧ sumN p (its.take j) = sumF pf (fs.take (k + 1)) + sumN p (cs.take k) := by
  induction b with
  | nil g => intro k j e; simp at e
  | @snoc fs cs its at' f c g b hc hg ih =>
    intro k j e
    obtain ⟨l1, l2⟩ := b.len
    by_cases hk : k < at'.length
    · rw [List.getElem?_append_left hk] at e
      obtain ⟨i1, i2⟩ := ih k j e
      refine ⟨by simp; (first | lia | omega), ?_⟩
      rw [List.append_assoc, List.take_append_of_le_length i1, List.take_append_of_le_length (by (first | lia | omega)), List.take_append_of_le_length (by (first | lia | omega))]
      exact i2
    · rw [List.getElem?_append_right (by (first | lia | omega))] at e
      have hk' : k = at'.length := by
        have := (List.getElem?_eq_some_iff.mp e).1
        simp at this; (first | lia | omega)
      subst hk'
      simp at e
      subst e
      refine ⟨by simp, ?_⟩
      rw [List.append_assoc, List.take_left', List.take_append_of_le_length (by (first | lia | omega)), List.take_of_length_le (by (first | lia | omega)), l2, List.take_left', b.sum h]
      · rfl
      · rfl
theorem Bnd.all (b : Bnd fs cs its at') {P : Nd → Prop} (hg : ∀ f g, GapOk f g → ∀ n ∈ g, P n) (hc : ∀ c : Nd, c.cell → c ∈ cs → P c) : ∀ n ∈ its, P n := by
  induction b with
  | nil g => exact hg _ _ g
  | snoc b c g ih =>
    intro n hn
    rcases List.mem_append.mp hn with hn | hn
    · rcases List.mem_append.mp hn with hn | hn
      · exact ih (fun c h1 h2 => hc c h1 (List.mem_append_left _ h2)) n hn
      · rw [List.mem_singleton.mp hn]; exact hc _ c (List.mem_append_right _ (.head _))
    · exact hg _ _ g n hn
theorem Bnd.sub (b : Bnd fs cs its at') : ∀ c ∈ cs, c ∈ its := by
  induction b with
  | nil g => intro c h; cases h
  | snoc b c g ih =>
    intro n hn
    rcases List.mem_append.mp hn with hn | hn
    · exact List.mem_append_left _ (List.mem_append_left _ (ih n hn))
    · exact List.mem_append_left _ (List.mem_append_right _ hn)
theorem Bnd.gr (b : Bnd fs cs its at') {p : Nd → Int} (hp : ∀ f g, GapOk f g → ∀ n ∈ g, p n = 0) {M : Int} (G : Gr p cs M) : Gr p its M :=
  ⟨G.pos, b.all (fun f g h n hn => by rw [hp f g h n hn]; exact G.pos) fun c _ h => G.le c h, G.is.imp id fun ⟨n, h, e⟩ => ⟨n, b.sub n h, e⟩⟩
theorem Bnd.dl (b : Bnd fs cs its at') : ∀ f c, fs.getLast? = some f → cs.getLast? = some c → its.foldl dl1 0 = if f.is then 0 else c.dp := by
  induction b with
  | nil g => intro f c _ h; simp at h
  | snoc b hc g ih =>
    intro f c e1 e2
    simp at e1 e2
    subst e1 e2
    rw [List.foldl_append, List.foldl_append, g.dl, List.foldl_cons, List.foldl_nil, hc.f.dl]
end
theorem gap_pv {f : Fw} {g : List Nd} (h : GapOk f g) : sumN Nd.pv g = f.w := by
  rw [← h.wd]
  unfold sumN
  exact congrArg List.sum (List.map_congr_left fun n hn => (h.flat n hn).2.2.2)
noncomputable def flF (sg od : Int) (f : Fw) : Int := if sg = 1 then f.cS od.toNat else if sg = 2 then -f.cT od.toNat else 0
theorem fl_eq {sg od : Int} (h0 : 0 ≤ od) {n : Nd} (h : n.fine) : flN sg od n = if sg = 1 then n.cS od.toNat else if sg = 2 then -n.cT od.toNat else 0 := by
  cases n <;> try (simp only [flN, Nd.cS, Nd.cT]; (repeat' split) <;> simp)
  rename_i w st so sh sho
  obtain ⟨_, h1, h2, h3, h4⟩ := h
  simp only [flN, flexI, Nd.cS, Nd.cT]
  (repeat' split) <;> first | rfl | (first | lia | omega)
theorem sum_ite {p q : Nd → Int} {ns : List Nd} : sumN (fun n => -p n) ns = -sumN p ns := by
  induction ns with
  | nil => rfl
  | cons n ns ih => rw [sumN_cons, sumN_cons, ih]; (first | lia | omega)
theorem sumN_congr {p q : Nd → Int} {ns : List Nd} (h : ∀ n ∈ ns, p n = q n) : sumN p ns = sumN q ns := congrArg List.sum (List.map_congr_left h)
theorem sumN0 : ∀ {ns : List Nd}, sumN (fun _ => 0) ns = 0
  | [] => rfl
  | n :: ns => by rw [sumN_cons, sumN0]; rfl
theorem gap_fl {sg od : Int} (h0 : 0 ≤ od) {f : Fw} {g : List Nd} (h : GapOk f g) : sumN (flN sg od) g = flF sg od f := by
  rw [sumN_congr fun n hn => fl_eq h0 (h.fine n hn)]
  unfold flF
  by_cases h1 : sg = 1
  · simp only [h1, if_true]; exact h.S _
  · simp only [h1, if_false]
    by_cases h2 : sg = 2
    · simp only [h2, if_true]; rw [sum_ite (q := fun _ => 0), h.T]
    · simp only [h2, if_false]
      exact sumN0
theorem cells_fl {sg od : Int} {cs : List Nd} (h : ∀ c ∈ cs, c.cell) : sumN (flN sg od) cs = 0 := by
  rw [sumN_congr fun n hn => (h n hn).f.fl sg od]
  exact sumN0
theorem sumN_bd {p : Nd → Int} {B : Int} : ∀ {ns : List Nd}, (∀ n ∈ ns, -B ≤ p n ∧ p n ≤ B) → -(B * ns.length) ≤ sumN p ns ∧ sumN p ns ≤ B * ns.length
  | [], _ => by simp [sumN]
  | n :: ns, h => by
    have h1 := h n (.head _)
    have h2 := sumN_bd fun m hm => h m (.tail _ hm)
    rw [sumN_cons, List.length_cons]
    have : B * ((ns.length + 1 : Nat) : Int) = B * ns.length + B := by rw [Int.natCast_add, Int.mul_add]; simp
    (first | lia | omega)
theorem sumF_bd {p : Fw → Int} {B : Int} : ∀ {ns : List Fw}, (∀ n ∈ ns, -B ≤ p n ∧ p n ≤ B) → -(B * ns.length) ≤ sumF p ns ∧ sumF p ns ≤ B * ns.length
  | [], _ => by simp [sumF]
  | n :: ns, h => by
    have h1 := h n (.head _)
    have h2 := sumF_bd fun m hm => h m (.tail _ hm)
    have e : sumF p (n :: ns) = p n + sumF p ns := rfl
    rw [e, List.length_cons]
    have : B * ((ns.length + 1 : Nat) : Int) = B * ns.length + B := by rw [Int.natCast_add, Int.mul_add]; simp
    (first | lia | omega)
/-! what a band gives -/
noncomputable abbrev Z4 := Int × Int × (Int × Int) × (Int × Int)
noncomputable def setF (fs : List Fw) (e : Int) : Z4 := sg4 (fun i => sumF (Fw.cS i) fs) (fun i => sumF (Fw.cT i) fs) e
noncomputable def posF (fs : List Fw) (ps : List Int) (z : Z4) (k : Nat) : Int := sumF Fw.w (fs.take (k + 1)) + (ps.take k).sum + rnd (z.2.2.1.1 * sumF (flF z.1 z.2.1) (fs.take (k + 1))) z.2.2.1.2
noncomputable def posns (fs : List Fw) (ps : List Int) (z : Z4) : List Int := (List.range ps.length).map (posF fs ps z)
noncomputable def endF (fs : List Fw) (ps : List Int) (z : Z4) : Int := sumF Fw.w fs + ps.sum + rnd (z.2.2.1.1 * sumF (flF z.1 z.2.1) fs) z.2.2.1.2
noncomputable def statD (fs : List Fw) (ps : List Int) (z : Z4) : D := .tup [.int z.1, .int z.2.1, pr z.2.2.1, pr z.2.2.2, .int (endF fs ps z), .bool true]
noncomputable abbrev bandN (k W H E : Int) (its : List Nd) (z : Z4) : Nd := .box k W H E (.lst (its.map Nd.D)) z.1 z.2.1 (pr z.2.2.1)
noncomputable abbrev bandD (k W H E : Int) (its : List Nd) (fs : List Fw) (ps : List Int) (z : Z4) : D := .tup [(bandN k W H E its z).D, .lst ((posns fs ps z).map D.int), statD fs ps z]
theorem szN_map {k : Int} {cs : List Nd} {j : Nat} : sumN (szN k) (cs.take j) = ((cs.map (szN k)).take j).sum := by unfold sumN; rw [List.map_take]
theorem szN_gap {k : Int} {f : Fw} {g : List Nd} (h : GapOk f g) : sumN (szN k) g = f.w := by
  by_cases hk : k = 2
  · rw [← h.wd]; exact sumN_congr fun n _ => by unfold szN; rw [if_pos hk]
  · rw [← gap_pv h]; exact sumN_congr fun n _ => by unfold szN; rw [if_neg hk]
theorem pos_at {fs : List Fw} {cs its : List Nd} {at' : List Nat} (b : Bnd fs cs its at') (hc : ∀ c ∈ cs, c.cell) {k : Int} {z : Z4} (h0 : 0 ≤ z.2.1) :
    at'.map (fun j => plc k z.1 z.2.1 z.2.2.1.1 z.2.2.1.2 (its.take j)) = posns fs (cs.map (szN k)) z := by
  refine List.ext_getElem? fun i => ?_
  have hl := b.len
  unfold posns
  rw [List.getElem?_map, List.getElem?_map, List.length_map]
  by_cases hi : i < cs.length
  · rw [List.getElem?_range hi, List.getElem?_eq_getElem (by (first | lia | omega))]
    simp only [Option.map_some]
    have e := List.getElem?_eq_getElem (l := at') (i := i) (by (first | lia | omega))
    have p1 := (b.pre (fun _ _ g => szN_gap (k := k) g) i _ e).2
    have p2 := (b.pre (fun _ _ g => gap_fl (sg := z.1) h0 g) i _ e).2
    unfold plc posF
    rw [p1, p2, szN_map, cells_fl fun c h => hc c (List.mem_of_mem_take h), Int.add_zero]
  · rw [List.getElem?_eq_none (by (first | lia | omega)), List.getElem?_eq_none (by rw [List.length_range]; (first | lia | omega))]; rfl
theorem end_at {fs : List Fw} {cs its : List Nd} {at' : List Nat} (b : Bnd fs cs its at') (hc : ∀ c ∈ cs, c.cell) {k : Int} {z : Z4} (h0 : 0 ≤ z.2.1) :
    plc k z.1 z.2.1 z.2.2.1.1 z.2.2.1.2 its = endF fs (cs.map (szN k)) z := by
  have p1 := b.sum (fun _ _ g => szN_gap (k := k) g)
  have p2 := b.sum (fun _ _ g => gap_fl (sg := z.1) h0 g)
  unfold plc endF
  rw [p1, p2, cells_fl hc, Int.add_zero]
  rfl
theorem sg4_ok {S T : Nat → Int} {e : Int} (hS : ∀ i, sml (S i)) (hT : ∀ i, sml (T i)) : 0 ≤ (sg4 S T e).2.1 ∧ 0 < (sg4 S T e).2.2.1.2 ∧ (sg4 S T e).2.2.1.2 < 268435456 := by
  have one : ∀ o t, 0 ≤ o → sml t → 0 ≤ (sg1 o t e).2.1 ∧ 0 < (sg1 o t e).2.2.1.2 ∧ (sg1 o t e).2.2.1.2 < 268435456 := fun o t ho ht => by
    obtain ⟨t1, t2⟩ := ht
    unfold sg1
    split
    · simp
    · split
      · exact ⟨ho, by simp⟩
      · refine ⟨ho, ?_⟩
        show 0 < (if 0 < t then t else -t) ∧ (if 0 < t then t else -t) < 268435456
        split <;> (first | lia | omega)
  unfold sg4
  split
  · simp
  · split
    · exact one _ _ (top_ge S).1 (hS _)
    · exact one _ _ (top_ge T).1 (hT _)
end
section
section
variable {g : Gl} {c : Ctx} {st : St} {Q : D → St → Prop}
theorem it_idx {value slice : Expr} {ds : List D} {i : Int} {d : D} (hs : plainSlice slice = true) (h0 : 0 ≤ i) (h : i < ds.length) (hz : ds.length ≤ 2 ^ 24) (hd : ds[i.toNat]? = some d) (q : Q d st) : ItQ g c value slice (.lst ds) (.int i) st Q :=
  it_lst hs (by simp only [inI, Bool.and_eq_true, decide_eq_true_eq]; w_left) (seqIdx h0 h) hd q
theorem it_last {value slice : Expr} {ds : List D} {d : D} (hs : plainSlice slice = true) (hd : ds.getLast? = some d) (q : Q d st) : ItQ g c value slice (.lst ds) (.int (-1)) st Q := by
  rw [List.getLast?_eq_getElem?] at hd
  have hl := (List.getElem?_eq_some_iff.mp hd).1
  refine it_lst hs (by decide) ?_ hd q
  unfold seqIndex?
  have e : (-1 : Int) + ds.length = ((ds.length - 1 : Nat) : Int) := by w_left
  simp only [show (-1 : Int) < 0 by decide, if_true, e]
  rw [if_pos (by simp only [Bool.and_eq_true, decide_eq_true_eq]; w_left), Int.toNat_natCast]
theorem ew_mnil {pos : Pos} (h : ∀ a, ¬ c.Xc a → Q (.mlst a) ⟨st.loc, st.cel, (a, .lst []) :: st.mu⟩) : EW g c (.List [] pos) st Q :=
  ew_mlst rfl (lw_nil h)
theorem pure_ints : ∀ {is : List Int}, pureDs (is.map D.int) = true ∧ deps (is.map D.int) = 0
  | [] => ⟨rfl, rfl⟩
  | i :: is => by
    obtain ⟨h1, h2⟩ := pure_ints (is := is)
    exact ⟨by simp only [List.map_cons, pureDs, pureD, h1, Bool.and_self], by simp only [List.map_cons, deps, dep, h2]; rfl⟩
theorem cq_sameInts {is : List Int} (q : Q (.bool true) st) : CmpQ g c .Eq (.lst (is.map D.int)) (.lst (is.map D.int)) st Q :=
  cq_same ⟨pure_ints.1, by rw [dep, pure_ints.2]; decide⟩ rfl q
set_option genInjectivity false in
set_option genSizeOf false in
/-- the kinds of a list's nodes -/
structure Ki where
  i : Nat
  es : List Int
  o : Option D
noncomputable abbrev kindsD (ns : List Nd) : D := .lst ((ns.map Nd.kind).map D.int)
theorem co_kinds {n0 : Str} {elt target iter : Expr} {scope : Scope} {pos : Pos} {it acc : Addr} {cl : List (Str × Addr × Option D)} {mu : List (Addr × Mu)} {Q : St → Prop} {p1 p2 p3 : Pos} (hit : ¬ c.Xc it)
    (he : elt = .Attribute (.Name (Str.ofString "node") p1) (Str.ofString "kind") p2) (ht : target = .Name (Str.ofString "node") p3) (ns : List Nd) (hz : ns.length ≤ 1000)
    (q : ∀ o, Q ⟨[(n0, none), (Str.ofString "node", o)], cl, (acc, .lst ((ns.map Nd.kind).map D.int)) :: mu⟩) :
    COMP g c elt target iter [] scope pos it acc ⟨[(n0, none), (Str.ofString "node", none)], cl, (acc, .lst []) :: (it, .itL 0 (ns.map Nd.D)) :: mu⟩ Q := by
  subst he ht
  refine comp_inv (α := Nd) (σ := Ki) (fun xs z => ⟨[(n0, none), (Str.ofString "node", z.o)], cl, (acc, .lst (z.es.map D.int)) :: (it, .itL z.i (xs.map Nd.D)) :: mu⟩) (fun xs z => ∃ done, ns = done ++ xs ∧ z.es = done.map Nd.kind) ?_ ?_ ns ⟨0, [], none⟩ ⟨[], rfl, rfl⟩
  · rintro x xs z ⟨done, e, ee⟩ ih
    have hl : z.es.length ≤ 1000 := by
      have := congrArg List.length e
      rw [List.length_append] at this
      rw [ee, List.length_map]; w_left
    refine co_l rfl (by rw [List.length_map]; w_left) (as_name ⟨_, .loc (.there .here), ?_⟩)
    refine ew_attr rfl (ew_loc (.there .here) (gq_kind ⟨_, _, rfl, ?_⟩))
    rw [map_snoc]
    exact ih ⟨z.i + 1, z.es ++ [x.kind], some x.D⟩ ⟨done ++ [x], by rw [e, List.append_assoc]; rfl, by show z.es ++ [x.kind] = _; rw [ee, List.map_append]; rfl⟩
  · rintro z ⟨done, e, ee⟩
    rw [List.append_nil] at e
    subst e
    rw [ee]
    exact co_lend hit (q _)
end
noncomputable abbrev natsD (l : List Nat) : List D := (l.map Int.ofNat).map D.int
theorem co_at {g : Gl} {c : Ctx} {n0 : Str} {elt target iter : Expr} {scope : Scope} {pos : Pos} {it acc ca : Addr} {mu : List (Addr × Mu)} {Q : St → Prop} {p1 p2 p3 p4 : Pos} {B : List Int} (hit : ¬ c.Xc it)
    (he : elt = .Subscript (.Name (Str.ofString "begins") p1) (.Name (Str.ofString "k") p2) p3) (ht : target = .Name (Str.ofString "k") p4) (l : List Nat) (hz : l.length ≤ 1000) (hB : B.length ≤ 2000) (hl : ∀ j ∈ l, j < B.length)
    (q : ∀ o, Q ⟨[(n0, none), (Str.ofString "k", o)], [(Str.ofString "begins", ca, some (.lst (B.map D.int)))], (acc, .lst ((l.map fun j => B.getD j 0).map D.int)) :: mu⟩) :
    COMP g c elt target iter [] scope pos it acc ⟨[(n0, none), (Str.ofString "k", none)], [(Str.ofString "begins", ca, some (.lst (B.map D.int)))], (acc, .lst []) :: (it, .itL 0 (natsD l)) :: mu⟩ Q := by
  subst he ht
  have hn : ∀ xs : List Nat, natsD xs = xs.map fun j => D.int (Int.ofNat j) := fun xs => by simp [natsD]
  rw [hn]
  refine comp_inv (α := Nat) (σ := Ki) (fun xs z => ⟨[(n0, none), (Str.ofString "k", z.o)], [(Str.ofString "begins", ca, some (.lst (B.map D.int)))], (acc, .lst (z.es.map D.int)) :: (it, .itL z.i (xs.map fun j => D.int (Int.ofNat j))) :: mu⟩) (fun xs z => ∃ done, l = done ++ xs ∧ z.es = done.map fun j => B.getD j 0) ?_ ?_ l ⟨0, [], none⟩ ⟨[], rfl, rfl⟩
  · rintro x xs z ⟨done, e, ee⟩ ih
    have hl' : z.es.length ≤ 1000 := by
      have := congrArg List.length e
      rw [List.length_append] at this
      rw [ee, List.length_map]; w_left
    have hx : x < B.length := hl x (by rw [e]; exact List.mem_append_right _ (.head _))
    refine co_l rfl (by rw [List.length_map]; w_left) (as_name ⟨_, .loc (.there .here), ?_⟩)
    refine ew_sub (ew_cel .here (ew_loc (.there .here) ?_))
    refine it_idx (d := .int (B.getD x 0)) rfl (by simp) (by rw [List.length_map]; exact Int.ofNat_lt.mpr hx) (by rw [List.length_map]; w_left) ?_ ⟨_, _, rfl, ?_⟩
    · rw [List.getElem?_map, show (Int.ofNat x).toNat = x from rfl, List.getElem?_eq_getElem hx, List.getD_eq_getElem?_getD, List.getElem?_eq_getElem hx]; rfl
    · rw [map_snoc]
      exact ih ⟨z.i + 1, z.es ++ [B.getD x 0], _⟩ ⟨done ++ [x], by rw [e, List.append_assoc]; rfl, by show z.es ++ [B.getD x 0] = _; rw [ee, List.map_append]; rfl⟩
  · rintro z ⟨done, e, ee⟩
    rw [List.append_nil] at e
    subst e
    rw [ee]
    exact co_lend hit (q _)
set_option genInjectivity false in
set_option genSizeOf false in
/-- what the loop over the cells has made -/
structure Bs where
  i : Nat
  its : List Nd
  at' : List Nat
  o1 : Option D
  o2 : Option D
  o3 : Option D
  a : Int
  b : Int
structure BsI (fs : List Fw) (cs xs : List Nd) (z : Bs) : Prop where
  ex : ∃ done, cs = done ++ xs ∧ Bnd (fs.take (done.length + 1)) done z.its z.at' ∧ z.i = done.length
  ha : Nn z.a
  hb : Nn z.b
theorem nats_snoc {l : List Nat} {n : Nat} : natsD l ++ [D.int n] = natsD (l ++ [n]) := by simp [natsD]
structure BandH (fs : List Fw) (cs : List Nd) : Prop where
  len : fs.length = cs.length + 1
  few : cs.length ≤ 6
  ne : cs ≠ []
  fok : ∀ f ∈ fs, f.ok
  cok : ∀ c ∈ cs, c.cell
theorem fw_bd {f : Fw} (h : f.ok) (i : Nat) : (-70000 ≤ f.cS i ∧ f.cS i ≤ 70000) ∧ (-70000 ≤ f.cT i ∧ f.cT i ≤ 70000) := by
  cases f with
  | none => simp [Fw.cS, Fw.cT]
  | some w st so sh sho =>
    simp only [Fw.ok] at h
    simp only [Fw.cS, Fw.cT]
    constructor <;> split <;> w_left
theorem BandH.sS {fs : List Fw} {cs : List Nd} (h : BandH fs cs) (i : Nat) : sml (sumF (Fw.cS i) fs) := by
  have := sumF_bd (B := 70000) fun f hf => (fw_bd (h.fok f hf) i).1
  have := h.len
  have := h.few
  simp only [sml]; w_left
theorem BandH.sT {fs : List Fw} {cs : List Nd} (h : BandH fs cs) (i : Nat) : sml (sumF (Fw.cT i) fs) := by
  have := sumF_bd (B := 70000) fun f hf => (fw_bd (h.fok f hf) i).2
  have := h.len
  have := h.few
  simp only [sml]; w_left
theorem Bnd.flbd {fs : List Fw} {cs its : List Nd} {at' : List Nat} (b : Bnd fs cs its at') {sg od : Int} (h0 : 0 ≤ od) : ∀ n ∈ its, -70000 ≤ flN sg od n ∧ flN sg od n ≤ 70000 := by
  refine b.all (fun f g hg n hn => ?_) (fun c hc _ => by rw [hc.f.fl]; w_left)
  rw [fl_eq h0 (hg.fine n hn)]
  have h1 := hg.bS n hn od.toNat
  have h2 := hg.bT n hn od.toNat
  split
  · exact h1
  · split <;> w_left
theorem Bnd.flpre {fs : List Fw} {cs its : List Nd} {at' : List Nat} (b : Bnd fs cs its at') {sg od : Int} (h0 : 0 ≤ od) (hz : its.length ≤ 1000) (x y : List Nd) (e : its = x ++ y) : -(2 ^ 60) < sumN (flN sg od) x ∧ sumN (flN sg od) x < 2 ^ 60 := by
  have h1 := sumN_bd (p := flN sg od) (B := 70000) (ns := x) fun n hn => b.flbd h0 n (by rw [e]; exact List.mem_append_left _ hn)
  have h2 := congrArg List.length e
  rw [List.length_append] at h2
  w_left
theorem for_apart {g : Gl} {c : Ctx} {target : Expr} {body : List Stmt} {a x y : Addr} {u v : Mu} {l cl mu} {Q : Fl → St → Prop} (h : x ≠ y → FOR g c target body a ⟨l, cl, (x, u) :: (y, v) :: mu⟩ Q) : FOR g c target body a ⟨l, cl, (x, u) :: (y, v) :: mu⟩ Q := fun X s k => by
  refine h (fun e => ?_) X s k
  have nd := k.nodup
  unfold own at nd
  rw [List.nodup_cons, List.nodup_append] at nd
  have nm := nd.2.2.1
  rw [List.map_cons, List.nodup_cons] at nm
  exact nm.1 (e ▸ .head _)
theorem idxF {fs : List Fw} {i : Nat} (h : i < fs.length) : ∃ f, (fs.map Fw.D)[i]? = some f.D ∧ f ∈ fs ∧ fs.take (i + 1) = fs.take i ++ [f] := by
  refine ⟨fs[i], ?_, List.getElem_mem h, ?_⟩
  · rw [List.getElem?_map, List.getElem?_eq_getElem h]; rfl
  · rw [List.take_add_one, List.getElem?_eq_getElem h]; rfl
noncomputable abbrev bandL (bx : Addr) (cs : List Nd) (fs : List Fw) (g0 g1 g2 : Int) (u : Bool) (items at' k cell gap mode kinds amount found report kept : Option D) : List (Str × Option D) :=
  [(Str.ofString "box", some (D.mlst bx)), (Str.ofString "cells", some (D.lst (List.map Nd.D cs))), (Str.ofString "flows", some (D.lst (List.map Fw.D fs))), (Str.ofString "goal", some (D.tup [D.int g0, D.int g1, D.int g2])), (Str.ofString "upright", some (D.bool u)), (Str.ofString "items", items), (Str.ofString "at", at'),
   (Str.ofString "k", k), (Str.ofString "cell", cell), (Str.ofString "gap", gap), (Str.ofString "mode", mode), (Str.ofString "kinds", kinds), (Str.ofString "amount", amount), (Str.ofString "found", found), (Str.ofString "report", report), (Str.ofString "kept", kept)]
theorem c_band {g : Gl} {bx : Addr} {a b : Int} {fs : List Fw} {cs : List Nd} {kk W H E g0 g1 g2 : Int} {u : Bool} {Q : D → List (Addr × Mu) → Prop} (hB : BandH fs cs) (hkk : kk = 2 ∨ kk = 3) (hpk : ∀ its at' m am, Bnd fs cs its at' → (m = 0 ∨ m = 1) → dim am → (if m = 0 then am else g0 + am) = g1 → ∀ Q' : D → List (Addr × Mu) → Prop, Q' (packR kk W H E its (setF fs (g1 - g0))) [] → CallW g 6 (.ref (if u then 581 else 573)) ([.lst (its.map Nd.D), .int m, .int am] ++ (if u then [.int g2] else [])) [] Q') (b1 : dim g1) (b2 : dim (g1 - g0)) (ha : Nn a) (hb : Nn b) (q : ∀ its a' b', Nn a' → Nn b' → Q (bandD kk W H E its fs (cs.map (szN kk)) (setF fs (g1 - g0))) (bxM bx a' b')) : CallW g 7 (.ref 636) [.mlst bx, .lst (cs.map Nd.D), .lst (fs.map Fw.D), .tup [.int g0, .int g1, .int g2], .bool u] (bxM bx a b) Q := by
  refine CallW.drop ?_
  refine callW_def (n := 6) (dds := []) (dvs := []) rfl (by kernel_rfl) (by kernel_rfl) (fun _ _ => rfl) ?_ ?_
  · intro X s vs b a
    obtain ⟨v0, r, rfl, a0, a⟩ := a
    obtain ⟨v1, r, rfl, a1, a⟩ := a
    obtain ⟨v2, r, rfl, a2, a⟩ := a
    obtain ⟨v3, r, rfl, a3, a⟩ := a
    obtain ⟨v4, r, rfl, a4, a⟩ := a
    obtain rfl : r = [] := a
    exact BindsTo.of_eq rfl
  · intro c hsc hcn
    apply Exists.intro
    apply Exists.intro
    apply And.intro
    · cb_eq
    refine xw_cons ?_
    refine xw_two rfl (by kernel_rfl) rfl rfl (by kernel_rfl) (by kernel_rfl) (by dl_mem) (by dl_mem) ?_
    refine lw_cons rfl ?_
    repeat' cell_step
    have hlen := hB.len
    have hfew := hB.few
    obtain ⟨f0, e0, m0, t0⟩ := idxF (fs := fs) (i := 0) (by w_left)
    refine it_idx rfl (by w_left) (by rw [List.length_map]; w_left) (by rw [List.length_map]; w_left) e0 ?_
    repeat' cell_step
    refine cq_box (w_gap (hB.fok _ m0)) .here (by w_left) ha hb (fun d a₁ b₁ hd ha₁ hb₁ => ?_)
    obtain ⟨gs, hg, rfl⟩ := hd
    refine lw_cons rfl (ew_mnil fun at' hat => ?_)
    repeat' cell_step
    refine cq_enum (fun x y hx hy => ?_)
    refine iw_self .here rfl ?_
    refine for_apart (fun hxy => ?_)
    refine for_inv (α := Nd) (σ := Bs) (fun xs z => ⟨bandL bx cs fs g0 g1 g2 u (some (.lst (z.its.map Nd.D))) (some (.mlst at')) z.o1 z.o2 z.o3 none none none none none none, [(Str.ofString "begins", cellAt c (Str.ofString "begins"), none)], (x, .enum y z.i) :: (y, .itL z.i (xs.map Nd.D)) :: (at', .lst (natsD z.at')) :: bxM bx z.a z.b⟩) (BsI fs cs) ?hs ?hn cs ⟨0, gs, [], none, none, none, a₁, b₁⟩ ⟨⟨[], rfl, by show Bnd (fs.take (0 + 1)) [] gs []; rw [t0]; exact .nil hg, rfl⟩, ha₁, hb₁⟩
    case hs =>
      rintro n xs z ⟨⟨done, e, hbn, hi⟩, hza, hzb⟩ ih
      have hld := congrArg List.length e
      rw [List.length_append, List.length_cons] at hld
      have hfz := hbn.few
      rw [List.length_take] at hfz
      have hl' := hbn.len
      obtain ⟨f, ef, mf, tf⟩ := idxF (fs := fs) (i := done.length + 1) (by w_left)
      have hlz : (z.its.map Nd.D).length ≤ 100 := by rw [List.length_map]; w_left
      refine for_step (nx_enum .here (.there .here) hxy (.there .here) .here ?_)
      repeat' cell_step
      refine cq_len (by w_left) ?_
      rw [List.length_map]
      repeat' cell_step
      refine cq_append (.there (.there .here)) (by simp only [natsD, List.length_map]; w_left) (.there (.there .here)) ?_
      rw [nats_snoc]
      repeat' cell_step
      refine it_idx (d := f.D) rfl (by w_left) (by rw [List.length_map]; w_left) (by rw [List.length_map]; w_left) (by rw [show ((z.i : Int) + 1).toNat = done.length + 1 by w_left]; exact ef) ?_
      repeat' cell_step
      refine cq_box (w_gap (hB.fok _ mf)) (.there (.there (.there .here))) (by w_left) hza hzb (fun d a₂ b₂ hd ha₂ hb₂ => ?_)
      obtain ⟨gs', hg', rfl⟩ := hd
      repeat' cell_step
      have hfg := hg'.few
      refine bq_addL (by rw [List.length_singleton]; w_left) ?_
      repeat' cell_step
      refine bq_addL (by rw [List.length_append, List.length_map, List.length_map, List.length_singleton]; w_left) ?_
      repeat' cell_step
      rw [show z.its.map Nd.D ++ [n.D] ++ gs'.map Nd.D = (z.its ++ [n] ++ gs').map Nd.D from by rw [List.map_append, List.map_append]; rfl]
      refine ih ⟨z.i + 1, z.its ++ [n] ++ gs', z.at' ++ [z.its.length], _, _, _, a₂, b₂⟩ ⟨⟨done ++ [n], by rw [e, List.append_assoc]; rfl, ?_, by show z.i + 1 = _; rw [List.length_append, List.length_singleton, hi]⟩, ha₂, hb₂⟩
      show Bnd (fs.take ((done ++ [n]).length + 1)) (done ++ [n]) (z.its ++ [n] ++ gs') (z.at' ++ [z.its.length])
      rw [List.length_append, List.length_singleton, tf]
      exact hbn.snoc (hB.cok n (by rw [e]; exact List.mem_append_right _ (.head _))) hg'
    case hn =>
      rintro z ⟨⟨done, e, hbn, hi⟩, hza, hzb⟩
      rw [List.append_nil] at e
      subst e
      rw [List.take_of_length_le (by w_left)] at hbn
      have hfz := hbn.few
      refine for_step (nx_enum_end (mu₁ := []) .here (.there .here) hy ?_)
      refine ko_next ?_
      refine xw_frz (.there .here) hat (.cons (.cons (.cons (.cons (.cons (.cons (.turn (.lst rfl) .refl))))))) .refl ?_
      refine xw_cons ?_
      repeat' ((fail_if_success (with_reducible show XW _ _ _ _ _)); cell_step)
      rename_i m a₂ b₂ hm0 hm1 ha₂ hb₂ it acc c' hs' hc' hit
      refine co_kinds hit rfl rfl _ (by w_left) (fun o => ?_)
      repeat' ((fail_if_success (with_reducible show XW _ _ _ _ _)); cell_step)
      refine xw_meet (fun st => ∃ am, dim am ∧ (if m = 0 then am else g0 + am) = g1 ∧ st = ⟨bandL bx cs fs g0 g1 g2 u (some (.lst (z.its.map Nd.D))) (some (.lst (natsD z.at'))) z.o1 z.o2 z.o3 (some (.int m)) (some (kindsD z.its)) (some (.int am)) none none none, [(Str.ofString "begins", cellAt c (Str.ofString "begins"), none)], (x, .enum y z.i) :: bxM bx a₂ b₂⟩) ?_ ?_
      · repeat' cell_step
        · refine ⟨g1 - g0, b2, ?_, rfl⟩
          rw [if_neg (by w_left)]; w_left
        · refine ⟨g1, b1, ?_, rfl⟩
          rw [if_pos (by w_left)]
      rintro st ⟨am, ham, hW, rfl⟩
      have hpp := fun Q' => hpk z.its z.at' m am hbn (by w_left) ham hW Q'
      generalize hzz : setF fs (g1 - g0) = zz at hpp q
      refine xw_join ⟨bandL bx cs fs g0 g1 g2 u (some (.lst (z.its.map Nd.D))) (some (.lst (natsD z.at'))) z.o1 z.o2 z.o3 (some (.int m)) (some (kindsD z.its)) (some (.int am)) (some (bandN kk W H E z.its zz).D) (some (pr zz.2.2.2)) none, [(Str.ofString "begins", cellAt c (Str.ofString "begins"), none)], (x, .enum y z.i) :: bxM bx a₂ b₂⟩ ?_ ?_
      · cases u
        · repeat' cell_step
          refine cq_pure (d := packR kk W H E z.its zz) (fun q => hpp _ q) (by w_left) ?_
          repeat' cell_step
          rfl
        · repeat' cell_step
          refine cq_pure (d := packR kk W H E z.its zz) (fun q => hpp _ q) (by w_left) ?_
          repeat' cell_step
          rfl
      refine xw_cons (xw_unpackC (x := Str.ofString "begins") rfl (kind_of hsc (by kernel_rfl)) (.head _) ?_)
      repeat' cell_step
      have hz3 : 0 ≤ zz.2.1 ∧ 0 < zz.2.2.1.2 ∧ zz.2.2.1.2 < 268435456 := by rw [← hzz]; exact sg4_ok hB.sS hB.sT
      refine cq_pure (c_places (k := kk) (W := W) (H := H) (E := E) (sg := zz.1) (od := zz.2.1) (up := zz.2.2.1.1) (dn := zz.2.2.1.2) (ns := z.its) (hbn.all (fun f g hg => hg.fine) fun c hc _ => hc.fine) hkk (by w_left) hz3.2.1 hz3.2.2 (hbn.flpre hz3.1 (by w_left))) (by w_left) ?_
      have hBl : ((List.range (z.its.length + 1)).map fun i => plc kk zz.1 zz.2.1 zz.2.2.1.1 zz.2.2.1.2 (z.its.take i)).length = z.its.length + 1 := by rw [List.length_map, List.length_range]
      have hBe : ((List.range (z.its.length + 1)).map fun i => plc kk zz.1 zz.2.1 zz.2.2.1.1 zz.2.2.1.2 (z.its.take i)).getLast? = some (endF fs (cs.map (szN kk)) zz) := by
        rw [List.range_succ, List.map_append, List.map_singleton, List.getLast?_concat, List.take_length, end_at hbn hB.cok hz3.1]
      have hle : ∀ j ∈ z.at', j ≤ z.its.length := fun j hj => by
        obtain ⟨k, hk, e⟩ := List.getElem_of_mem hj
        exact (hbn.pre (p := Nd.wd) (fun _ _ g => g.wd) k j (by rw [List.getElem?_eq_getElem hk, e])).1
      have hBp : (z.at'.map fun j => ((List.range (z.its.length + 1)).map fun i => plc kk zz.1 zz.2.1 zz.2.2.1.1 zz.2.2.1.2 (z.its.take i)).getD j 0) = posns fs (cs.map (szN kk)) zz := by
        rw [← pos_at hbn hB.cok hz3.1]
        refine List.map_congr_left fun j hj => ?_
        have := hle j hj
        rw [List.getD_eq_getElem?_getD, List.getElem?_map, List.getElem?_range (by w_left)]; rfl
      generalize ((List.range (z.its.length + 1)).map fun i => plc kk zz.1 zz.2.1 zz.2.2.1.1 zz.2.2.1.2 (z.its.take i)) = B at hBl hBe hBp
      repeat' cell_step
      rename_i it2 acc2 c2 hs2 hc2 hit2
      refine co_kinds hit2 rfl rfl _ (by w_left) (fun o2 => ?_)
      repeat' cell_step
      refine cq_sameInts ?_
      repeat' cell_step
      rename_i it3 acc3 c3 hs3 hc3 hit3
      refine co_at hit3 rfl rfl _ (by rw [hbn.len.2]; w_left) (by w_left) (fun j hj => by have := hle j hj; w_left) (fun o3 => ?_)
      repeat' cell_step
      refine it_last (d := .int (endF fs (cs.map (szN kk)) zz)) rfl (by rw [List.getLast?_map, hBe]; rfl) ?_
      repeat' cell_step
      rw [hBp]
      exact ⟨_, List.sublist_cons_self _ _, q z.its a₂ b₂ ha₂ hb₂⟩
    
end
section
theorem Bnd.ne {fs : List Fw} {cs its : List Nd} {at' : List Nat} (b : Bnd fs cs its at') (h : cs ≠ []) : its ≠ [] := fun e => by
  cases cs with
  | nil => exact h rfl
  | cons c cs => have := b.sub c (.head _); rw [e] at this; cases this
theorem cells0 {p : Nd → Int} {cs : List Nd} (h : ∀ c ∈ cs, p c = 0) : sumN p cs = 0 := by rw [sumN_congr h]; exact sumN0
noncomputable abbrev IsBand (k W H E : Int) (fs : List Fw) (ps : List Int) (z : Z4) (d : D) : Prop := ∃ its, d = bandD k W H E its fs ps z
theorem w_band_line {g : Gl} {bx : Addr} {fs : List Fw} {cs : List Nd} {ps : List Int} {H E g0 g1 g2 : Int} (hB : BandH fs cs) (h0 : sumF Fw.w fs + sumN Nd.wd cs = g0) (hps : cs.map Nd.wd = ps) (hH : Gr Nd.ht cs H) (hE : Gr Nd.dp cs E)
    (b1 : dim g1) (b2 : dim (g1 - g0)) (bH : dim H) (bE : dim E) (be : sml (g1 - g0)) :
    BoxW g 7 (.ref 636) bx [.lst (cs.map Nd.D), .lst (fs.map Fw.D), .tup [.int g0, .int g1, .int g2], .bool false] (IsBand 2 g1 H E fs ps (setF fs (g1 - g0))) := by
  have hsz : cs.map (szN 2) = ps := by rw [← hps]; exact List.map_congr_left fun n _ => by unfold szN; rw [if_pos rfl]
  intro a b ha hb Q q
  refine c_band (kk := 2) (W := g1) (H := H) (E := E) hB (.inl rfl) (fun its at' m am hbn hm ham hW Q' hq => ?_) b1 b2 ha hb (fun its a' b' ha' hb' => q _ a' b' ⟨its, by rw [hsz]⟩ ha' hb')
  have hnat : sumN Nd.wd its = g0 := by rw [hbn.sum (fun _ _ g => g.wd), h0]
  exact c_hpack (nat := g0) (hbn.all (fun f g hg => hg.fine) fun c hc _ => hc.fine) (hbn.ne hB.ne) hm ham hnat
    (fun i => by rw [hbn.sum (fun _ _ g => g.S i), cells0 fun c hc => (hB.cok c hc).f.S i, Int.add_zero])
    (fun i => by rw [hbn.sum (fun _ _ g => g.T i), cells0 fun c hc => (hB.cok c hc).f.T i, Int.add_zero])
    (hbn.gr (fun f g hg n hn => (hg.flat n hn).1) hH) (hbn.gr (fun f g hg n hn => (hg.flat n hn).2.1) hE) hW b1 bH bE be hB.sS hB.sT hq
theorem w_band_col {g : Gl} {bx : Addr} {fs : List Fw} {cs : List Nd} {ps : List Int} {W E g0 g1 g2 : Int} {f : Fw} {c : Nd} (hB : BandH fs cs) (hf : fs.getLast? = some f) (hc : cs.getLast? = some c) (h0 : sumF Fw.w fs + sumN Nd.pv cs = g0 + E) (hE : (if g2 < (if f.is then 0 else c.dp) then g2 else (if f.is then 0 else c.dp)) = E)
    (hps : cs.map Nd.pv = ps) (hW : Gr Nd.ac cs W) (b1 : dim g1) (b2 : dim (g1 - g0)) (bW : dim W) (bE : dim E) (b3 : dim g2) (be : sml (g1 - g0)) :
    BoxW g 7 (.ref 636) bx [.lst (cs.map Nd.D), .lst (fs.map Fw.D), .tup [.int g0, .int g1, .int g2], .bool true] (IsBand 3 W g1 E fs ps (setF fs (g1 - g0))) := by
  have hsz : cs.map (szN 3) = ps := by rw [← hps]; exact List.map_congr_left fun n _ => by unfold szN; rw [if_neg (by decide)]
  intro a b ha hb Q q
  refine c_band (kk := 3) (W := W) (H := g1) (E := E) hB (.inr rfl) (fun its at' m am hbn hm ham hH Q' hq => ?_) b1 b2 ha hb (fun its a' b' ha' hb' => q _ a' b' ⟨its, by rw [hsz]⟩ ha' hb')
  have hnat : sumN Nd.pv its = g0 + E := by rw [hbn.sum (fun _ _ g => gap_pv g), h0]
  exact c_vpack (nat := g0) (hbn.all (fun f g hg => hg.fine) fun c hc _ => hc.fine) (hbn.ne hB.ne) hm ham b3 hnat
    (fun i => by rw [hbn.sum (fun _ _ g => g.S i), cells0 fun c hc => (hB.cok c hc).f.S i, Int.add_zero])
    (fun i => by rw [hbn.sum (fun _ _ g => g.T i), cells0 fun c hc => (hB.cok c hc).f.T i, Int.add_zero])
    (hbn.gr (fun f g hg n hn => (hg.flat n hn).2.2.1) hW) (by rw [hbn.dl f c hf hc]; exact hE) hH bW b1 bE be hB.sS hB.sT hq
end
section
/-! the grid -/
theorem co_rng {g : Gl} {c : Ctx} {elt target iter : Expr} {scope : Scope} {pos pk : Pos} {it acc : Addr} {Q : St → Prop} {n0 kn : Str} {cc : List (Str × Addr × Option D)} {n : Nat} {a b : Int} (P : D → Prop) (mf : Int → Int → List (Addr × Mu)) (hit : ¬ c.Xc it) (hk : target = .Name kn pk) (hn : n ≤ 1000)
    (he : ∀ (i : Int) (es : List D) (u : Mu) (a b : Int), Nn a → Nn b → ∀ Q' : D → St → Prop, (∀ d a' b', P d → Nn a' → Nn b' → Q' d ⟨[(n0, none), (kn, some (.int i))], cc, (acc, .lst es) :: (it, u) :: mf a' b'⟩) → EW g c elt ⟨[(n0, none), (kn, some (.int i))], cc, (acc, .lst es) :: (it, u) :: mf a b⟩ Q')
    (ha : Nn a) (hb : Nn b) (q : ∀ es o a' b', es.length = n → (∀ e ∈ es, P e) → Nn a' → Nn b' → Q ⟨[(n0, none), (kn, o)], cc, (acc, .lst es) :: mf a' b'⟩) :
    COMP g c elt target iter [] scope pos it acc ⟨[(n0, none), (kn, none)], cc, (acc, .lst []) :: (it, .itR 0 n 1) :: mf a b⟩ Q := by
  subst hk
  have go : ∀ (m : Nat) (i : Int) (es : List D) (o : Option D) (a b : Int), es.length + m = n → (∀ e ∈ es, P e) → Nn a → Nn b → COMP g c elt (.Name kn pk) iter [] scope pos it acc ⟨[(n0, none), (kn, o)], cc, (acc, .lst es) :: (it, .itR i m 1) :: mf a b⟩ Q := by
    intro m
    induction m with
    | zero => intro i es o a b hl hp ha hb; exact co_rend (Int.le_refl _) hit (q es o a b (by w_left) hp ha hb)
    | succ m ih =>
      intro i es o a b hl hp ha hb
      refine co_r rfl (by w_left) (by w_left) (as_name ⟨_, .loc (.there .here), he _ _ _ _ _ ha hb _ fun d a' b' hd ha' hb' => ⟨_, _, rfl, ?_⟩⟩)
      rw [show ((m + 1 : Nat) : Int) - 1 = m by w_left]
      exact ih _ _ _ _ _ (by rw [List.length_append, List.length_singleton]; w_left) (fun e he => (List.mem_append.mp he).elim (hp e) fun he => by rw [List.mem_singleton.mp he]; exact hd) ha' hb'
  exact go n 0 [] none a b (by simp) nofun ha hb
noncomputable abbrev prD (p : Int × Int) : D := .tup [.int p.1, .int p.2]
set_option genInjectivity false in
set_option genSizeOf false in
structure Gd where
  fb : List Fw
  fv : List Fw
  br : List Int
  tl : List (Int × Int)
  ks : List Int
  ob : Int
  bd : Int
  oh : Int
  ht : Int
  dp : Int
  mo : Int
noncomputable abbrev Gd.D (G : Gd) (spot : Int) (inner : D) : D := .tup [.lst (G.fb.map Fw.D), .lst (G.fv.map Fw.D), .lst (G.br.map D.int), .lst (G.tl.map prD), .lst (G.ks.map D.int), .int spot, inner, .tup [.int G.ob, .int G.bd, .int G.oh, .int G.ht, .int G.dp, .int G.mo]]
noncomputable def ldT (fv : List Fw) (tl : List (Int × Int)) : Int := if (fv.getLast?.getD .none).is then 0 else (tl.getLast?.getD (0, 0)).2
noncomputable def hd2 (p : Int × Int) : Int := p.1 + p.2
structure Gd.ok (G : Gd) : Prop where
  l1 : G.fb.length = G.br.length + 1
  l2 : G.fv.length = G.tl.length + 1
  c1 : 1 ≤ G.br.length ∧ G.br.length ≤ 4
  r1 : 1 ≤ G.tl.length ∧ G.tl.length ≤ 3
  f1 : ∀ f ∈ G.fb, f.ok
  f2 : ∀ f ∈ G.fv, f.ok
  b1 : ∀ x ∈ G.br, 0 ≤ x ∧ x ≤ 7000000
  t1 : ∀ p ∈ G.tl, (0 ≤ p.1 ∧ p.1 ≤ 11000000) ∧ (0 ≤ p.2 ∧ p.2 ≤ 11000000)
  kl : G.ks.length = G.br.length * G.tl.length
  k1 : ∀ k ∈ G.ks, 0 ≤ k ∧ k ≤ 3
  mo : 0 ≤ G.mo ∧ G.mo ≤ 1073741823
  dp : G.dp = if G.mo < ldT G.fv G.tl then G.mo else ldT G.fv G.tl
  ob : G.ob = G.br.sum + sumF Fw.w G.fb
  oh : G.oh = (G.tl.map hd2).sum + sumF Fw.w G.fv - G.dp
  bd : 0 ≤ G.bd ∧ -4000000 ≤ G.bd - G.ob ∧ G.bd - G.ob ≤ 15000000
  ht : 0 ≤ G.ht ∧ -4000000 ≤ G.ht - G.oh ∧ G.ht - G.oh ≤ 15000000
noncomputable def InnP (br : List Int) (tl : List (Int × Int)) (spot : Int) (inner : D) : Prop := (spot = -1 ∧ inner = .tup []) ∨ ∃ G1 : Gd, G1.ok ∧ G1.bd ≤ 7000000 ∧ G1.ht ≤ 11000000 ∧ inner = G1.D (-1) (.tup []) ∧ 0 ≤ spot ∧ spot < (br.length * tl.length : Nat) ∧ br[(spot.fmod br.length).toNat]? = some G1.bd ∧ tl[(spot.fdiv br.length).toNat]? = some (G1.ht, G1.dp)
noncomputable def GridP (lv : Int) (d : D) : Prop := ∃ G spot inner, Gd.ok G ∧ d = Gd.D G spot inner ∧ (lv = 1 → spot = -1 ∧ inner = .tup [] ∧ G.bd ≤ 7000000 ∧ G.ht ≤ 11000000) ∧ (lv = 0 → InnP G.br G.tl spot inner)
theorem it_ord {g : Gl} {c : Ctx} {st : St} {Q : D → St → Prop} {value slice : Expr} {i : Int} (hs : plainSlice slice = true) (h0 : 0 ≤ i) (h7 : i ≤ 2) (q : ∀ v, 1 ≤ v → v ≤ 4 → Q (.int v) st) : ItQ g c value slice (.lst [.int 1, .int 2, .int 4]) (.int i) st Q := by
  have : i = 0 ∨ i = 1 ∨ i = 2 := by w_left
  rcases this with rfl | rfl | rfl
  all_goals exact it_litL hs rfl rfl (q _ (by w_left) (by w_left))
theorem it_most {g : Gl} {c : Ctx} {st : St} {Q : D → St → Prop} {value slice : Expr} {i : Int} (hs : plainSlice slice = true) (h0 : 0 ≤ i) (h7 : i ≤ 2) (q : ∀ v, 0 ≤ v → v ≤ 1073741823 → Q (.int v) st) : ItQ g c value slice (.lst [.int (1073741824 - 1), .int 0, .int 9]) (.int i) st Q := by
  have : i = 0 ∨ i = 1 ∨ i = 2 := by w_left
  rcases this with rfl | rfl | rfl
  all_goals exact it_litL hs rfl rfl (q _ (by w_left) (by w_left))
noncomputable abbrev gridL (lv : Int) (columns rows beside beneath broad tall kinds spot inner most deep own_breadth own_height breadth height : Option D) : List (Str × Option D) :=
  [(Str.ofString "level", some (D.int lv)), (Str.ofString "columns", columns), (Str.ofString "rows", rows), (Str.ofString "beside", beside), (Str.ofString "beneath", beneath), (Str.ofString "broad", broad), (Str.ofString "tall", tall), (Str.ofString "kinds", kinds), (Str.ofString "spot", spot), (Str.ofString "inner", inner),
   (Str.ofString "most", most), (Str.ofString "deep", deep), (Str.ofString "own_breadth", own_breadth), (Str.ofString "own_height", own_height), (Str.ofString "breadth", breadth), (Str.ofString "height", height)]
structure MidP (lv : Int) (nc nr : Nat) (br : List Int) (tl : List (Int × Int)) (spot : Int) (inner : D) (br' : List Int) (tl' : List (Int × Int)) (a b : Int) : Prop where
  lb : br'.length = nc
  lt : tl'.length = nr
  bb : ∀ x ∈ br', 0 ≤ x ∧ x ≤ 7000000
  tb : ∀ p ∈ tl', (0 ≤ p.1 ∧ p.1 ≤ 11000000) ∧ (0 ≤ p.2 ∧ p.2 ≤ 11000000)
  one : lv = 1 → spot = -1 ∧ inner = .tup [] ∧ br' = br ∧ tl' = tl
  two : lv = 0 → InnP br' tl' spot inner
  ha : Nn a
  hb : Nn b
theorem ldT_in {fv : List Fw} {tl : List (Int × Int)} {B : Int} (hB : 0 ≤ B) (h : ∀ p ∈ tl, 0 ≤ p.2 ∧ p.2 ≤ B) : 0 ≤ ldT fv tl ∧ ldT fv tl ≤ B := by
  unfold ldT
  split
  · w_left
  · cases e : tl.getLast? with
    | none => simp; w_left
    | some p => exact h p (List.mem_of_getLast? e)
theorem Gd.ok.dpb {G : Gd} (h : G.ok) : 0 ≤ G.dp ∧ G.dp ≤ 11000000 := by
  have := ldT_in (fv := G.fv) (B := 11000000) (by w_left) fun p hp => (h.t1 p hp).2
  rw [h.dp]
  have := h.mo
  split <;> w_left
theorem list_of {α : Type} (f : α → D) (ok : α → Prop) : ∀ {es : List D}, (∀ e ∈ es, ∃ x, ok x ∧ e = f x) → ∃ xs : List α, es = xs.map f ∧ ∀ x ∈ xs, ok x
  | [], _ => ⟨[], rfl, nofun⟩
  | e :: es, h => by
    obtain ⟨x, hx, rfl⟩ := h e (.head _)
    obtain ⟨xs, rfl, hxs⟩ := list_of f ok fun e he => h e (.tail _ he)
    exact ⟨x :: xs, rfl, fun y hy => (List.mem_cons.mp hy).elim (fun q => q ▸ hx) (hxs y)⟩
theorem bq_p30 {g : Gl} {c : Ctx} {st : St} {Q : D → St → Prop} (q : Q (.int 1073741824) st) : BinQ g c .Pow (.int 2) (.int 30) st Q := bq_pow (by decide) (by decide) q
theorem sum_in {B : Int} : ∀ {es : List Int}, (∀ e ∈ es, 0 ≤ e ∧ e ≤ B) → 0 ≤ es.sum ∧ es.sum ≤ B * es.length
  | [], _ => by simp
  | e :: es, h => by
    have h1 := h e (.head _)
    have h2 := sum_in fun x hx => h x (.tail _ hx)
    rw [List.sum_cons, List.length_cons]
    have : B * ((es.length + 1 : Nat) : Int) = B * es.length + B := by rw [Int.natCast_add, Int.mul_add]; simp
    w_left
theorem co_flow0 {g : Gl} {c : Ctx} {n0 : Str} {elt target iter t : Expr} {scope : Scope} {pos : Pos} {it acc : Addr} {cc : List (Str × Addr × Option D)} {mu : List (Addr × Mu)} {Q : St → Prop} {p1 p2 p3 p4 p5 p6 p7 : Pos} (hit : ¬ c.Xc it)
    (he : elt = .Subscript (.Name (Str.ofString "flow") p1) (.Constant (.int 0) 0 p2) p3) (ht : target = .Name (Str.ofString "flow") p4) (htt : t = .Compare (.Name (Str.ofString "flow") p5) [.NotEq] [.Tuple [] 0 p6] p7) (fs : List Fw) (hz : fs.length ≤ 1000)
    (q : ∀ o (ws : List Int), ws.sum = sumF Fw.w fs → ws.length ≤ fs.length → Q ⟨[(n0, none), (Str.ofString "flow", o)], cc, (acc, .lst (ws.map D.int)) :: mu⟩) :
    COMP g c elt target iter [t] scope pos it acc ⟨[(n0, none), (Str.ofString "flow", none)], cc, (acc, .lst []) :: (it, .itL 0 (fs.map Fw.D)) :: mu⟩ Q := by
  subst he ht htt
  refine comp_inv (α := Fw) (σ := Ki) (fun xs z => ⟨[(n0, none), (Str.ofString "flow", z.o)], cc, (acc, .lst (z.es.map D.int)) :: (it, .itL z.i (xs.map Fw.D)) :: mu⟩) (fun xs z => z.es.sum + sumF Fw.w xs = sumF Fw.w fs ∧ z.es.length + xs.length ≤ fs.length) ?_ ?_ fs ⟨0, [], none⟩ ⟨by simp, by simp⟩
  · rintro x xs z ⟨e, hl⟩ ih
    rw [List.length_cons] at hl
    have e' : sumF Fw.w (x :: xs) = x.w + sumF Fw.w xs := rfl
    refine co_lt rfl (by rw [List.length_map]; w_left) (as_name ⟨_, .loc (.there .here), ?_⟩)
    refine bw_cmp rfl (ew_loc (.there .here) (ew_tup rfl (lw_nil (cq_ne_fw (fun h => ⟨_, rfl, nofun, fun _ => ?_⟩) fun w s o t p h => ⟨_, rfl, fun _ => ?_, nofun⟩))))
    · subst h
      exact ih ⟨z.i + 1, z.es, _⟩ ⟨by show z.es.sum + _ = _; rw [← e, e']; simp [Fw.w], by show z.es.length + _ ≤ _; w_left⟩
    · subst h
      refine ew_sub (ew_loc (.there .here) (ew_int (it_litT rfl rfl rfl ⟨_, _, rfl, ?_⟩)))
      rw [map_snoc]
      exact ih ⟨z.i + 1, z.es ++ [w], _⟩ ⟨by show (z.es ++ [w]).sum + _ = _; rw [← e, e', List.sum_append]; simp [Fw.w]; w_left, by show (z.es ++ [w]).length + _ ≤ _; rw [List.length_append, List.length_singleton]; w_left⟩
  · rintro z ⟨e, hl⟩
    exact co_lend hit (q _ _ (by rw [← e]; simp [sumF]) (by simpa using hl))
theorem co_pairs {g : Gl} {c : Ctx} {n0 : Str} {elt target iter : Expr} {scope : Scope} {pos : Pos} {it acc : Addr} {cc : List (Str × Addr × Option D)} {mu : List (Addr × Mu)} {Q : St → Prop} {p1 p2 p3 p4 p5 p6 p7 p8 : Pos} (hit : ¬ c.Xc it)
    (he : elt = .BinOp (.Subscript (.Name (Str.ofString "pair") p1) (.Constant (.int 0) 0 p2) p3) .Add (.Subscript (.Name (Str.ofString "pair") p5) (.Constant (.int 1) 0 p6) p7) p8) (ht : target = .Name (Str.ofString "pair") p4) (tl : List (Int × Int)) (hz : tl.length ≤ 1000)
    (q : ∀ o, Q ⟨[(n0, none), (Str.ofString "pair", o)], cc, (acc, .lst ((tl.map hd2).map D.int)) :: mu⟩) :
    COMP g c elt target iter [] scope pos it acc ⟨[(n0, none), (Str.ofString "pair", none)], cc, (acc, .lst []) :: (it, .itL 0 (tl.map prD)) :: mu⟩ Q := by
  subst he ht
  refine comp_inv (α := Int × Int) (σ := Ki) (fun xs z => ⟨[(n0, none), (Str.ofString "pair", z.o)], cc, (acc, .lst (z.es.map D.int)) :: (it, .itL z.i (xs.map prD)) :: mu⟩) (fun xs z => z.es ++ xs.map hd2 = tl.map hd2) ?_ ?_ tl ⟨0, [], none⟩ (by simp)
  · rintro x xs z e ih
    have hl := congrArg List.length e
    rw [List.length_append, List.length_map, List.length_map] at hl
    refine co_l rfl (by rw [List.length_map]; w_left) (as_name ⟨_, .loc (.there .here), ?_⟩)
    refine ew_bin (ew_sub (ew_loc (.there .here) (ew_int (it_litT rfl rfl rfl (ew_sub (ew_loc (.there .here) (ew_int (it_litT rfl rfl rfl (bq_add ⟨_, _, rfl, ?_⟩)))))))))
    rw [map_snoc]
    exact ih ⟨z.i + 1, z.es ++ [hd2 x], _⟩ (by show (z.es ++ [hd2 x]) ++ xs.map hd2 = _; rw [← e, List.append_assoc]; rfl)
  · rintro z e
    rw [List.map_nil, List.append_nil] at e
    rw [e]
    exact co_lend hit (q _)
theorem fw_w {f : Fw} (h : f.ok) : -25 ≤ f.w ∧ f.w ≤ 25 := by
  cases f with
  | none => simp [Fw.w]
  | some w st so sh sho => simp only [Fw.ok] at h; simp only [Fw.w]; w_left
end
section
/-! what the two ways of packing give -/
structure Bd4 where
  W : Int
  H : Int
  E : Int
  its : List Nd
noncomputable def zb (G : Gd) : Z4 := setF G.fb (G.bd - G.ob)
noncomputable def zv (G : Gd) : Z4 := setF G.fv (G.ht - G.oh)
noncomputable def tv (G : Gd) : List Int := G.tl.map hd2
noncomputable abbrev rowB (G : Gd) (x : Bd4) : D := bandD 2 x.W x.H x.E x.its G.fb G.br (zb G)
noncomputable abbrev colB (G : Gd) (x : Bd4) : D := bandD 3 x.W x.H x.E x.its G.fv (tv G) (zv G)
noncomputable abbrev szs (x : Bd4) : Int × Int × Int := (x.W, x.H, x.E)
noncomputable abbrev RowsX (G : Gd) (xs : List Bd4) : Prop := xs.map szs = G.tl.map fun p => (G.bd, p.1, p.2)
noncomputable abbrev ColsX (G : Gd) (xs : List Bd4) : Prop := xs.map szs = G.br.map fun w => (w, G.ht, G.dp)
noncomputable abbrev rowsM (G : Gd) (w : List Nd) (xs : List Bd4) (hid : D) : D := .tup [colB G ⟨G.bd, G.ht, G.dp, w⟩, .lst (xs.map (rowB G)), hid]
noncomputable abbrev colsM (G : Gd) (w : List Nd) (xs : List Bd4) (hid : D) : D := .tup [rowB G ⟨G.bd, G.ht, G.dp, w⟩, .lst (xs.map (colB G)), hid]
noncomputable def MadeP (G : Gd) (byc : Bool) (hid : D) (d : D) : Prop := match byc with
  | false => ∃ w xs, RowsX G xs ∧ d = rowsM G w xs hid
  | true => ∃ w xs, ColsX G xs ∧ d = colsM G w xs hid
/-- the hidden grid's part -/
noncomputable def HidP (spot : Int) (inner : D) (within : Bool) (hid : D) : Prop := (spot = -1 ∧ hid = .tup []) ∨ (0 ≤ spot ∧ ∃ G1 : Gd, G1.ok ∧ inner = G1.D (-1) (.tup []) ∧ MadeP G1 within (.tup []) hid)
structure CellsOk (G : Gd) (cs : List Nd) : Prop where
  cell : ∀ n ∈ cs, n.cell
  at' : ∀ k n, cs[k]? = some n → G.br[k % G.br.length]? = some n.wd ∧ G.tl[k / G.br.length]? = some (n.ht, n.dp)
theorem CellsOk.row {G : Gd} {cs : List Nd} (h : CellsOk G cs) (hl : cs.length = G.br.length * G.tl.length) (hc : 0 < G.br.length) {i : Nat} {p : Int × Int} (hi : G.tl[i]? = some p) :
    ((cs.drop (i * G.br.length)).take G.br.length).map Nd.wd = G.br ∧ ∀ n ∈ (cs.drop (i * G.br.length)).take G.br.length, n.ht = p.1 ∧ n.dp = p.2 := by
  have hi' := (List.getElem?_eq_some_iff.mp hi).1
  have hb : i * G.br.length + G.br.length ≤ cs.length := by
    rw [hl, Nat.mul_comm G.br.length]
    calc i * G.br.length + G.br.length = (i + 1) * G.br.length := by rw [Nat.succ_mul]
      _ ≤ G.tl.length * G.br.length := Nat.mul_le_mul_right _ hi'
  have at1 : ∀ j, j < G.br.length → ∃ n, cs[i * G.br.length + j]? = some n ∧ G.br[j]? = some n.wd ∧ (n.ht, n.dp) = p := fun j hj => by
    have hlt : i * G.br.length + j < cs.length := by (first | lia | omega)
    refine ⟨cs[i * G.br.length + j], List.getElem?_eq_getElem hlt, ?_⟩
    obtain ⟨h1, h2⟩ := h.at' _ _ (List.getElem?_eq_getElem hlt)
    have e1 : (i * G.br.length + j) % G.br.length = j := by rw [Nat.add_comm, Nat.add_mul_mod_self_right, Nat.mod_eq_of_lt hj]
    have e2 : (i * G.br.length + j) / G.br.length = i := by rw [Nat.add_comm, Nat.add_mul_div_right _ _ hc, Nat.div_eq_of_lt hj, Nat.zero_add]
    rw [e1] at h1
    rw [e2, hi] at h2
    exact ⟨h1, (Option.some.inj h2).symm⟩
  constructor
  · refine List.ext_getElem? fun j => ?_
    rw [List.getElem?_map]
    by_cases hj : j < G.br.length
    · obtain ⟨n, e, hb', _⟩ := at1 j hj
      rw [List.getElem?_take_of_lt hj, List.getElem?_drop, e, hb']; rfl
    · rw [List.getElem?_eq_none (by rw [List.length_take]; (first | lia | omega)), List.getElem?_eq_none (by (first | lia | omega))]; rfl
  · intro n hn
    obtain ⟨j, hj⟩ := List.getElem?_of_mem hn
    have hj' : j < G.br.length := by
      have := (List.getElem?_eq_some_iff.mp hj).1
      rw [List.length_take] at this; (first | lia | omega)
    obtain ⟨n', e, _, e2⟩ := at1 j hj'
    rw [List.getElem?_take_of_lt hj', List.getElem?_drop, e] at hj
    obtain rfl := Option.some.inj hj
    exact ⟨congrArg Prod.fst e2, congrArg Prod.snd e2⟩
theorem fm_congr {α β : Type} {f g : α → Option β} : ∀ {l : List α}, (∀ a ∈ l, f a = g a) → l.filterMap f = l.filterMap g
  | [], _ => rfl
  | a :: l, h => by rw [List.filterMap_cons, List.filterMap_cons, h a (.head _), fm_congr fun b hb => h b (.tail _ hb)]
/-- a column's cells -/
noncomputable def colOf (G : Gd) (cs : List Nd) (j : Nat) : List Nd := (List.range G.tl.length).filterMap fun i => cs[j + i * G.br.length]?
theorem CellsOk.col {G : Gd} {cs : List Nd} (h : CellsOk G cs) (hl : cs.length = G.br.length * G.tl.length) {j : Nat} {w : Int} (hj : G.br[j]? = some w) :
    (colOf G cs j).map (fun n => (n.ht, n.dp)) = G.tl ∧ (∀ n ∈ colOf G cs j, n.wd = w) ∧ ∀ n ∈ colOf G cs j, n ∈ cs := by
  have hj' := (List.getElem?_eq_some_iff.mp hj).1
  have at1 : ∀ i, i < G.tl.length → ∃ n, cs[j + i * G.br.length]? = some n ∧ n.wd = w ∧ G.tl[i]? = some (n.ht, n.dp) := fun i hi => by
    have hb : i * G.br.length + G.br.length ≤ cs.length := by
      rw [hl, Nat.mul_comm G.br.length]
      calc i * G.br.length + G.br.length = (i + 1) * G.br.length := by rw [Nat.succ_mul]
        _ ≤ G.tl.length * G.br.length := Nat.mul_le_mul_right _ hi
    have hlt : j + i * G.br.length < cs.length := by (first | lia | omega)
    refine ⟨cs[j + i * G.br.length], List.getElem?_eq_getElem hlt, ?_⟩
    obtain ⟨h1, h2⟩ := h.at' _ _ (List.getElem?_eq_getElem hlt)
    rw [Nat.add_mul_mod_self_right, Nat.mod_eq_of_lt hj', hj] at h1
    rw [Nat.add_mul_div_right _ _ (by (first | lia | omega)), Nat.div_eq_of_lt hj', Nat.zero_add] at h2
    exact ⟨(Option.some.inj h1).symm, h2⟩
  have ef : colOf G cs j = (List.range G.tl.length).map fun i => cs[j + i * G.br.length]?.getD (.pen 0) := by
    unfold colOf
    rw [← List.filterMap_eq_map]
    refine fm_congr fun i hi => ?_
    obtain ⟨n, e, _⟩ := at1 i (List.mem_range.mp hi)
    simp [e]
  rw [ef]
  refine ⟨?_, ?_, ?_⟩
  · refine List.ext_getElem? fun i => ?_
    rw [List.getElem?_map, List.getElem?_map]
    by_cases hi : i < G.tl.length
    · obtain ⟨n, e, _, e2⟩ := at1 i hi
      rw [List.getElem?_range hi, e2]
      simp only [Option.map_some, e, Option.getD_some]
    · rw [List.getElem?_eq_none (by rw [List.length_range]; (first | lia | omega)), List.getElem?_eq_none (by (first | lia | omega))]; rfl
  · intro n hn
    obtain ⟨i, hi, rfl⟩ := List.mem_map.mp hn
    obtain ⟨n, e, e1, _⟩ := at1 i (List.mem_range.mp hi)
    rw [e]; exact e1
  · intro n hn
    obtain ⟨i, hi, rfl⟩ := List.mem_map.mp hn
    obtain ⟨n, e, _, _⟩ := at1 i (List.mem_range.mp hi)
    rw [e]; exact List.mem_of_getElem? e
end
section
structure Gd.nums (G : Gd) : Prop where
  ob : -200 ≤ G.ob ∧ G.ob ≤ 28000200
  oh : -12000200 ≤ G.oh ∧ G.oh ≤ 66000200
  bd : 0 ≤ G.bd ∧ G.bd ≤ 50000000
  ht : 0 ≤ G.ht ∧ G.ht ≤ 90000000
  dp : 0 ≤ G.dp ∧ G.dp ≤ 11000000
theorem Gd.ok.nums {G : Gd} (h : G.ok) : G.nums := by
  have hwb := sumF_bd (p := Fw.w) (B := 25) fun f hf => fw_w (h.f1 f hf)
  have hwv := sumF_bd (p := Fw.w) (B := 25) fun f hf => fw_w (h.f2 f hf)
  have hbs := sum_in h.b1
  have hts := sum_in (es := G.tl.map hd2) (B := 22000000) fun e he => by
    obtain ⟨p, hp, rfl⟩ := List.mem_map.mp he
    have := h.t1 p hp
    simp only [hd2]; (first | lia | omega)
  rw [List.length_map] at hts
  have h1 := h.l1
  have h2 := h.l2
  have h3 := h.c1
  have h4 := h.r1
  have h5 := h.ob
  have h6 := h.oh
  have h7 := h.dpb
  have h8 := h.bd
  have h9 := h.ht
  refine ⟨?_, ?_, ?_, ?_, h7⟩ <;> (first | lia | omega)
theorem all_gr {p : Nd → Int} {cs : List Nd} {M : Int} (h0 : 0 ≤ M) (h : ∀ n ∈ cs, p n = M) (hne : cs ≠ []) : Gr p cs M :=
  ⟨h0, fun n hn => Int.le_of_eq (h n hn), .inr (by
    cases cs with
    | nil => exact absurd rfl hne
    | cons c cs => exact ⟨c, .head _, h c (.head _)⟩)⟩
theorem w_line {g : Gl} {bx : Addr} {G : Gd} (hG : G.ok) {cs : List Nd} {H E : Int} (hc : ∀ n ∈ cs, n.cell) (hw : cs.map Nd.wd = G.br) (hH : ∀ n ∈ cs, n.ht = H) (hE : ∀ n ∈ cs, n.dp = E) (bH : 0 ≤ H ∧ H ≤ 90000000) (bE : 0 ≤ E ∧ E ≤ 90000000) :
    BoxW g 7 (.ref 636) bx [.lst (cs.map Nd.D), .lst (G.fb.map Fw.D), .tup [.int G.ob, .int G.bd, .int 0], .bool false] (IsBand 2 G.bd H E G.fb G.br (zb G)) := by
  have hn := hG.nums
  have n1 := hn.ob
  have n2 := hn.bd
  have l1 := hG.l1
  have c1 := hG.c1
  have lw := congrArg List.length hw
  rw [List.length_map] at lw
  have hne : cs ≠ [] := fun e => by rw [e, List.length_nil] at lw; (first | lia | omega)
  refine w_band_line (ps := G.br) ⟨by (first | lia | omega), by (first | lia | omega), hne, hG.f1, hc⟩ ?_ hw (all_gr bH.1 hH hne) (all_gr bE.1 hE hne) ⟨by (first | lia | omega), by (first | lia | omega)⟩ ⟨by (first | lia | omega), by (first | lia | omega)⟩ ⟨by (first | lia | omega), by (first | lia | omega)⟩ ⟨by (first | lia | omega), by (first | lia | omega)⟩ ⟨by (first | lia | omega), by (first | lia | omega)⟩
  rw [hG.ob, ← hw]
  show _ + (cs.map Nd.wd).sum = _
  (first | lia | omega)
theorem last_map {α β : Type} {f : α → β} {l : List α} {b : β} (h : (l.map f).getLast? = some b) : ∃ a, l.getLast? = some a ∧ f a = b := by
  rw [List.getLast?_map] at h
  exact Option.map_eq_some_iff.mp h
theorem w_colm {g : Gl} {bx : Addr} {G : Gd} (hG : G.ok) {cs : List Nd} {W : Int} (hc : ∀ n ∈ cs, n.cell) (ht : cs.map (fun n => (n.ht, n.dp)) = G.tl) (hW : ∀ n ∈ cs, n.wd = W) (bW : 0 ≤ W ∧ W ≤ 90000000) :
    BoxW g 7 (.ref 636) bx [.lst (cs.map Nd.D), .lst (G.fv.map Fw.D), .tup [.int G.oh, .int G.ht, .int G.mo], .bool true] (IsBand 3 W G.ht G.dp G.fv (tv G) (zv G)) := by
  have hn := hG.nums
  have n1 := hn.oh
  have n2 := hn.ht
  have n3 := hn.dp
  have l1 := hG.l2
  have c1 := hG.r1
  have hmo := hG.mo
  have lw := congrArg List.length ht
  rw [List.length_map] at lw
  have hne : cs ≠ [] := fun e => by rw [e, List.length_nil] at lw; (first | lia | omega)
  obtain ⟨f, hf⟩ : ∃ f, G.fv.getLast? = some f := by
    cases e : G.fv.getLast? with
    | none => rw [List.getLast?_eq_none_iff] at e; rw [e, List.length_nil] at l1; (first | lia | omega)
    | some f => exact ⟨f, rfl⟩
  obtain ⟨p, hp⟩ : ∃ f, G.tl.getLast? = some f := by
    cases e : G.tl.getLast? with
    | none => rw [List.getLast?_eq_none_iff] at e; rw [e, List.length_nil] at c1; (first | lia | omega)
    | some f => exact ⟨f, rfl⟩
  obtain ⟨c, hcl, hcp⟩ := last_map (f := fun n : Nd => (n.ht, n.dp)) (by rw [ht]; exact hp)
  have hcd : c.dp = p.2 := congrArg Prod.snd hcp
  have hpv : cs.map Nd.pv = tv G := by
    unfold tv
    rw [← ht, List.map_map]
    exact List.map_congr_left fun n hn => (hc n hn).f.pv
  refine w_band_col (ps := tv G) (f := f) (c := c) ⟨by (first | lia | omega), by (first | lia | omega), hne, hG.f2, hc⟩ hf hcl ?_ ?_ hpv (all_gr bW.1 (fun n hn => by rw [(hc n hn).f.ac]; exact hW n hn) hne) ⟨by (first | lia | omega), by (first | lia | omega)⟩ ⟨by (first | lia | omega), by (first | lia | omega)⟩ ⟨by (first | lia | omega), by (first | lia | omega)⟩ ⟨by (first | lia | omega), by (first | lia | omega)⟩ ⟨by (first | lia | omega), by (first | lia | omega)⟩ ⟨by (first | lia | omega), by (first | lia | omega)⟩
  · rw [hG.oh]
    show _ + (cs.map Nd.pv).sum = _
    rw [hpv]; unfold tv; (first | lia | omega)
  · rw [hG.dp, hcd]
    have : ldT G.fv G.tl = if f.is then 0 else p.2 := by unfold ldT; rw [hf, hp]; rfl
    rw [this]
theorem MadeP.head {G : Gd} {byc : Bool} {hid d : D} (h : MadeP G byc hid d) : ∃ (n : Nd) (r1 r2 : List D), d = .tup (.tup (n.D :: r1) :: r2) ∧ n.cell ∧ n.wd = G.bd ∧ n.ht = G.ht ∧ n.dp = G.dp := by
  cases byc with
  | false =>
    obtain ⟨w, xs, _, rfl⟩ := h
    exact ⟨bandN 3 G.bd G.ht G.dp w (zv G), _, _, rfl, ⟨by decide, by decide⟩, rfl, rfl, rfl⟩
  | true =>
    obtain ⟨w, xs, _, rfl⟩ := h
    exact ⟨bandN 2 G.bd G.ht G.dp w (zb G), _, _, rfl, ⟨by decide, by decide⟩, rfl, rfl, rfl⟩
end
section
local macro_rules | `(tactic| cell_step) => `(tactic| (first
  | (guard_target = EW _ _ (.ListComp ..) ..; with_reducible refine ew_rc (kind_of (by assumption) (by kernel_rfl)) rfl (by kernel_rfl) (by kernel_rfl) ?_)
  | fail "no step"))
theorem c_grid {g : Gl} {n : Nat} {lv : Int} {bx : Addr} {a b : Int} {Q : D → List (Addr × Mu) → Prop} (hn : 2 ≤ n) (hlv : lv = 0 ∨ lv = 1) (hrec : lv = 0 → BoxW g n (.ref 619) bx [.int 1] (GridP 1)) (ha : Nn a) (hb : Nn b) (q : ∀ d a' b', GridP lv d → Nn a' → Nn b' → Q d (bxM bx a' b')) : CallW g (n+1) (.ref 619) [.mlst bx, .int lv] (bxM bx a b) Q := by
  refine callW_def (n := n) (dds := []) (dvs := []) rfl (by kernel_rfl) (by kernel_rfl) (fun _ _ => rfl) ?_ ?_
  · intro X s vs b a
    obtain ⟨v0, r, rfl, a0, a⟩ := a
    obtain ⟨v1, r, rfl, a1, a⟩ := a
    obtain rfl : r = [] := a
    exact BindsTo.of_eq rfl
  · intro c hsc hcn
    apply Exists.intro
    apply Exists.intro
    apply And.intro
    · cb_eq
    refine xw_cons (xw_unpackC (x := Str.ofString "orders") rfl (kind_of hsc (by kernel_rfl)) (.head _) ?_)
    repeat' cell_step
    refine it_ord rfl (by assumption) (by w_left) ?_
    intro o ho1 ho2
    repeat' ((fail_if_success (with_reducible show XW _ _ _ _ _)); cell_step)
    rename_i i1 a1 b1 k1 k2 ha1 hb1 i2 a2 b2 k3 k4 ha2 hb2
    obtain ⟨nc, hnc⟩ : ∃ nc : Nat, 1 + i1 = nc := ⟨(1 + i1).toNat, by w_left⟩
    obtain ⟨nr, hnr⟩ : ∃ nr : Nat, 1 + i2 = nr := ⟨(1 + i2).toNat, by w_left⟩
    rw [hnc, hnr]
    refine xw_cons ?_
    repeat' cell_step
    refine ⟨nc + 1, _, _, _, _, _, rfl, by w_left, rfl, by cell_enter, fun it acc c' hacc hs' hc' hit => ?_⟩
    refine co_rng IsFw (bxM bx) hit rfl (by w_left) ?_ ha2 hb2 (fun es o' a3 b3 hl3 hp3 ha3 hb3 => ?_)
    · intro i es u a b ha hb Q' hq
      repeat' cell_step
      exact cq_box (w_flow ho1 ho2) (by dl_mem) (by w_left) ha hb hq
    obtain ⟨fb, rfl, hfb⟩ := list_of Fw.D Fw.ok hp3
    rw [List.length_map] at hl3
    refine ⟨_, _, _, rfl, ?_⟩
    repeat' cell_step
    refine ⟨nr + 1, _, _, _, _, _, rfl, by w_left, rfl, by cell_enter, fun it acc c' hacc hs' hc' hit => ?_⟩
    refine co_rng IsFw (bxM bx) hit rfl (by w_left) ?_ ha3 hb3 (fun es o' a4 b4 hl4 hp4 ha4 hb4 => ?_)
    · intro i es u a b ha hb Q' hq
      repeat' cell_step
      exact cq_box (w_flow ho1 ho2) (by dl_mem) (by w_left) ha hb hq
    obtain ⟨fv, rfl, hfv⟩ := list_of Fw.D Fw.ok hp4
    rw [List.length_map] at hl4
    refine ⟨_, _, _, rfl, ?_⟩
    repeat' ((fail_if_success (with_reducible show XW _ _ _ _ _)); cell_step)
    refine xw_cons ?_
    refine xw_two rfl (by kernel_rfl) rfl rfl (by kernel_rfl) (by kernel_rfl) (by dl_mem) (by dl_mem) ?_
    refine lw_cons rfl (ew_rcM (kind_of hsc (by kernel_rfl)) rfl (by kernel_rfl) (by kernel_rfl) ?_)
    repeat' cell_step
    refine ⟨nc, _, _, _, _, _, rfl, by w_left, rfl, by cell_enter, fun it accB c' haccB hs' hc' hit => ?_⟩
    refine co_rng (InR 0 1900600) (bxM bx) hit rfl (by w_left) ?_ ha4 hb4 (fun es o' a5 b5 hl5 hp5 ha5 hb5 => ?_)
    · intro i es u a b ha hb Q' hq
      repeat' cell_step
      exact cq_box w_side (by dl_mem) (by w_left) ha hb hq
    obtain ⟨br, rfl, hbr⟩ := list_of D.int (fun i => 0 ≤ i ∧ i ≤ 1900600) (fun e he => let ⟨i, h1, h2⟩ := hp5 e he; ⟨i, h2, h1⟩)
    rw [List.length_map] at hl5
    refine ⟨_, _, rfl, ?_⟩
    refine lw_cons rfl (ew_rcM (kind_of hsc (by kernel_rfl)) rfl (by kernel_rfl) (by kernel_rfl) ?_)
    repeat' cell_step
    refine ⟨nr, _, _, _, _, _, rfl, by w_left, rfl, by cell_enter, fun it accT c' haccT hs' hc' hit => ?_⟩
    refine co_rng (fun d => ∃ p : Int × Int, ((0 ≤ p.1 ∧ p.1 ≤ 1900600) ∧ (0 ≤ p.2 ∧ p.2 ≤ 1900600)) ∧ d = prD p) (fun a b => (accB, .lst (br.map D.int)) :: bxM bx a b) hit rfl (by w_left) ?_ ha5 hb5 (fun es o' a6 b6 hl6 hp6 ha6 hb6 => ?_)
    · intro i es u a b ha hb Q' hq
      repeat' cell_step
      refine cq_box w_side (by dl_mem) (by w_left) ha hb (fun d a' b' hd ha' hb' => ?_)
      obtain ⟨x, rfl, hx⟩ := hd
      repeat' cell_step
      refine cq_box w_side (by dl_mem) (by w_left) ha' hb' (fun d a' b' hd ha' hb' => ?_)
      obtain ⟨y, rfl, hy⟩ := hd
      repeat' cell_step
      exact hq _ _ _ ⟨(x, y), ⟨hx, hy⟩, rfl⟩ ha' hb'
    obtain ⟨tl, rfl, htl⟩ := list_of prD _ hp6
    rw [List.length_map] at hl6
    refine ⟨_, _, rfl, ?_⟩
    repeat' ((fail_if_success (with_reducible show XW _ _ _ _ _)); cell_step)
    have hcr : nc * nr ≤ 4 * 3 := Nat.mul_le_mul (by w_left) (by w_left)
    have hcr1 : 1 * 1 ≤ nc * nr := Nat.mul_le_mul (by w_left) (by w_left)
    have hcri : ((nc * nr : Nat) : Int) = (nc : Int) * nr := Int.natCast_mul _ _
    refine xw_cons ?_
    repeat' cell_step
    refine ⟨nc * nr, _, _, _, _, _, rfl, by w_left, rfl, by cell_enter, fun it acc c' hacc hs' hc' hit => ?_⟩
    refine co_rng (fun d => ∃ k, (0 ≤ k ∧ k ≤ 3) ∧ d = .int k) (fun a b => (accT, .lst (tl.map prD)) :: (accB, .lst (br.map D.int)) :: bxM bx a b) hit rfl (by w_left) ?_ ha6 hb6 (fun es o' a7 b7 hl7 hp7 ha7 hb7 => ?_)
    · intro i es u a b ha hb Q' hq
      repeat' cell_step
      exact hq _ _ _ ⟨_, ⟨by assumption, by w_left⟩, rfl⟩ (by assumption) (by assumption)
    obtain ⟨ks, rfl, hks⟩ := list_of D.int _ hp7
    rw [List.length_map] at hl7
    refine ⟨_, _, _, rfl, ?_⟩
    repeat' ((fail_if_success (with_reducible show XW _ _ _ _ _)); cell_step)
    refine xw_meet (fun st => ∃ spot inner br' tl' a b, MidP lv nc nr br tl spot inner br' tl' a b ∧ st = ⟨gridL lv (some (.int nc)) (some (.int nr)) (some (.lst (fb.map Fw.D))) (some (.lst (fv.map Fw.D))) (some (.mlst accB)) (some (.mlst accT)) (some (.lst (ks.map D.int))) (some (.int spot)) (some inner) none none none none none none, [(Str.ofString "box", cellAt c (Str.ofString "box"), some (.mlst bx)), (Str.ofString "orders", cellAt c (Str.ofString "orders"), some (.int o))], (accT, .lst (tl'.map prD)) :: (accB, .lst (br'.map D.int)) :: bxM bx a b⟩) ?_ ?_
    · have hno : ∀ a b, Nn a → Nn b → MidP lv nc nr br tl (-1) (.tup []) br tl a b := fun a b ha hb =>
        ⟨hl5, hl6, fun x hx => by have := hbr x hx; w_left, fun p hp => by have := htl p hp; w_left, fun _ => ⟨rfl, rfl, rfl, rfl⟩, fun _ => .inl ⟨rfl, rfl⟩, ha, hb⟩
      repeat' cell_step
      all_goals try exact ⟨-1, .tup [], br, tl, _, _, hno _ _ (by assumption) (by assumption), rfl⟩
      rename_i hl0 hl1 j ja jb j1 j2 j3 j4 j5 s sa sb hs0 hs1 hsa hsb
      refine cq_box (hrec hl0) (by dl_mem) (by w_left) hsa hsb (fun d a8 b8 hd ha8 hb8 => ?_)
      obtain ⟨G1, sp1, in1, hG1, rfl, h1, _⟩ := hd
      obtain ⟨rfl, rfl, hbd1, hht1⟩ := h1 rfl
      have hm := fm (a := s) (m := nc) (by w_left)
      have hq0 := fd (a := s) (m := nc) hs0 (by w_left)
      have hq1 : s.fdiv nc < nr := by
        rw [Int.fdiv_eq_ediv_of_nonneg _ (by w_left)]
        exact Int.ediv_lt_of_lt_mul (by w_left) (by rw [Int.mul_comm]; w_left)
      repeat' cell_step
      refine si_mlst (by dl_mem) hm.1 (by simp only [inI, Bool.and_eq_true, decide_eq_true_eq]; w_left) (by rw [List.length_map]; w_left) (by dl_mem) ?_
      rw [← List.map_set]
      repeat' cell_step
      refine si_mlst (d := prD (G1.ht, G1.dp)) (by dl_mem) hq0 (by simp only [inI, Bool.and_eq_true, decide_eq_true_eq]; w_left) (by rw [List.length_map]; w_left) (by dl_mem) ?_
      rw [← List.map_set]
      repeat' cell_step
      refine ⟨s, _, br.set (s.fmod nc).toNat G1.bd, tl.set (s.fdiv nc).toNat (G1.ht, G1.dp), a8, b8, ?_, rfl⟩
      refine ⟨by rw [List.length_set]; exact hl5, by rw [List.length_set]; exact hl6, fun x hx => ?_, fun p hp => ?_, fun h => by w_left, fun _ => .inr ⟨G1, hG1, hbd1, hht1, rfl, hs0, ?_, ?_, ?_⟩, ha8, hb8⟩
      · rcases List.mem_or_eq_of_mem_set hx with h | rfl
        · have := hbr x h; w_left
        · exact ⟨hG1.bd.1, hbd1⟩
      · rcases List.mem_or_eq_of_mem_set hp with h | rfl
        · have := htl p h; w_left
        · exact ⟨⟨hG1.ht.1, hht1⟩, hG1.dpb⟩
      · rw [List.length_set, List.length_set, hl5, hl6]; w_left
      · rw [List.length_set, hl5, List.getElem?_set_self (by w_left)]
      · rw [List.length_set, hl5, List.getElem?_set_self (by w_left)]
    rintro st ⟨spot, inner, br', tl', a, b, hM, rfl⟩
    refine xw_frz .here haccT (.cons (.cons (.cons (.cons (.cons (.cons (.turn (.lst rfl) .refl))))))) .refl ?_
    refine xw_frz .here haccB (.cons (.cons (.cons (.cons (.cons (.turn (.lst rfl) .refl)))))) .refl ?_
    have hMa := hM.ha
    have hMb := hM.hb
    have hMl := hM.lb
    have hMt := hM.lt
    refine xw_cons ?_
    repeat' cell_step
    refine bq_p30 ?_
    repeat' cell_step
    refine it_most rfl (by assumption) (by w_left) ?_
    intro mo hmo0 hmo1
    repeat' ((fail_if_success (with_reducible show XW _ _ _ _ _)); cell_step)
    rename_i j9 a9 b9 k9 k9' ha9 hb9
    obtain ⟨fl, hfl⟩ : ∃ f, fv.getLast? = some f := by
      cases e : fv.getLast? with
      | none => rw [List.getLast?_eq_none_iff] at e; rw [e, List.length_nil] at hl4; w_left
      | some f => exact ⟨f, rfl⟩
    obtain ⟨pl, hpl⟩ : ∃ f, tl'.getLast? = some f := by
      cases e : tl'.getLast? with
      | none => rw [List.getLast?_eq_none_iff] at e; rw [e, List.length_nil] at hMt; w_left
      | some f => exact ⟨f, rfl⟩
    refine xw_meet (fun st => st = ⟨gridL lv (some (.int nc)) (some (.int nr)) (some (.lst (fb.map Fw.D))) (some (.lst (fv.map Fw.D))) (some (.lst (br'.map D.int))) (some (.lst (tl'.map prD))) (some (.lst (ks.map D.int))) (some (.int spot)) (some inner) (some (.int mo)) (some (.int (if mo < ldT fv tl' then mo else ldT fv tl'))) none none none none, [(Str.ofString "box", cellAt c (Str.ofString "box"), some (.mlst bx)), (Str.ofString "orders", cellAt c (Str.ofString "orders"), some (.int o))], bxM bx a9 b9⟩) ?_ ?_
    · have hld : ldT fv tl' = if fl.is then 0 else pl.2 := by unfold ldT; rw [hfl, hpl]; rfl
      repeat' cell_step
      refine it_last (d := fl.D) rfl (by rw [List.getLast?_map, hfl]; rfl) ?_
      repeat' cell_step
      refine cq_eq_fw (fun h => ?_) (fun w s o t p h => ?_)
      · subst h
        repeat' cell_step
        refine it_last (d := prD pl) rfl (by rw [List.getLast?_map, hpl]; rfl) ?_
        repeat' cell_step
        rw [hld]; rfl
      · subst h
        repeat' cell_step
        rw [hld]; rfl
    rintro st rfl
    refine xw_cons ?_
    repeat' cell_step
    refine cq_sum (by w_left) ?_
    repeat' cell_step
    rename_i it3 acc3 c3 hs3 hc3 hit3
    refine co_flow0 hit3 rfl rfl rfl fb (by w_left) (fun o3 ws hws hwl => ?_)
    repeat' cell_step
    refine cq_sum (by w_left) ?_
    rw [hws]
    repeat' ((fail_if_success (with_reducible show XW _ _ _ _ _)); cell_step)
    refine xw_cons ?_
    repeat' cell_step
    rename_i it4 acc4 c4 hs4 hc4 hit4
    refine co_pairs hit4 rfl rfl tl' (by w_left) (fun o4 => ?_)
    repeat' cell_step
    refine cq_sum (by rw [List.length_map]; w_left) ?_
    repeat' cell_step
    rename_i it5 acc5 c5 hs5 hc5 hit5
    refine co_flow0 hit5 rfl rfl rfl fv (by w_left) (fun o5 ws' hws' hwl' => ?_)
    repeat' cell_step
    refine cq_sum (by w_left) ?_
    rw [hws']
    repeat' ((fail_if_success (with_reducible show XW _ _ _ _ _)); cell_step)
    refine xw_cons ?_
    repeat' cell_step
    refine cq_box (w_more hfb (by w_left)) (by dl_mem) (by w_left) ha9 hb9 (fun d a10 b10 hd ha10 hb10 => ?_)
    obtain ⟨m1, rfl, hm1, hm1'⟩ := hd
    repeat' cell_step
    refine cq_box (w_more hfv (by w_left)) (by dl_mem) (by w_left) ha10 hb10 (fun d a11 b11 hd ha11 hb11 => ?_)
    obtain ⟨m2, rfl, hm2, hm2'⟩ := hd
    repeat' cell_step
    have hwb := sumF_bd (p := Fw.w) (B := 25) fun f hf => fw_w (hfb f hf)
    have hwv := sumF_bd (p := Fw.w) (B := 25) fun f hf => fw_w (hfv f hf)
    have hbs := sum_in hM.bb
    have hts := sum_in (es := tl'.map hd2) (B := 22000000) fun e he => by
      obtain ⟨p, hp, rfl⟩ := List.mem_map.mp he
      have := hM.tb p hp
      simp only [hd2]; w_left
    rw [List.length_map] at hts
    have hdl := ldT_in (fv := fv) (B := 11000000) (by w_left) fun p hp => (hM.tb p hp).2
    generalize hdp : (if mo < ldT fv tl' then mo else ldT fv tl') = dp
    have hdp0 : 0 ≤ dp ∧ dp ≤ 11000000 := by rw [← hdp]; split <;> w_left
    refine q _ _ _ ⟨⟨fb, fv, br', tl', ks, _, _, _, _, _, mo⟩, spot, inner, ⟨by show fb.length = br'.length + 1; w_left, by show fv.length = tl'.length + 1; w_left, by show 1 ≤ br'.length ∧ br'.length ≤ 4; w_left, by show 1 ≤ tl'.length ∧ tl'.length ≤ 3; w_left, hfb, hfv, hM.bb, hM.tb, by show ks.length = br'.length * tl'.length; rw [hl7, hMl, hMt], hks, ⟨hmo0, hmo1⟩, hdp.symm, rfl, rfl, ?_, ?_⟩, rfl, fun h => ?_, hM.two⟩ ha11 hb11
    · show 0 ≤ (if br'.sum + sumF Fw.w fb + m1 > 0 then _ else _) ∧ _ ≤ (if br'.sum + sumF Fw.w fb + m1 > 0 then _ else _) - (br'.sum + sumF Fw.w fb) ∧ (if br'.sum + sumF Fw.w fb + m1 > 0 then _ else _) - (br'.sum + sumF Fw.w fb) ≤ _
      split <;> w_left
    · show 0 ≤ (if (tl'.map hd2).sum + sumF Fw.w fv - dp + m2 > 0 then _ else _) ∧ _ ≤ (if (tl'.map hd2).sum + sumF Fw.w fv - dp + m2 > 0 then _ else _) - ((tl'.map hd2).sum + sumF Fw.w fv - dp) ∧ (if (tl'.map hd2).sum + sumF Fw.w fv - dp + m2 > 0 then _ else _) - ((tl'.map hd2).sum + sumF Fw.w fv - dp) ≤ _
      split <;> w_left
    · obtain ⟨h1, h2, h3, h4⟩ := hM.one h
      subst h3 h4
      have hbs' := sum_in hbr
      have hts' := sum_in (es := tl'.map hd2) (B := 3801200) fun e he => by
        obtain ⟨p, hp, rfl⟩ := List.mem_map.mp he
        have := htl p hp
        simp only [hd2]; w_left
      rw [List.length_map] at hts'
      refine ⟨h1, h2, ?_, ?_⟩
      · show (if br'.sum + sumF Fw.w fb + m1 > 0 then _ else _) ≤ _
        split <;> w_left
      · show (if (tl'.map hd2).sum + sumF Fw.w fv - dp + m2 > 0 then _ else _) ≤ _
        split <;> w_left
    theorem w_grid1 {g : Gl} {bx : Addr} : BoxW g 3 (.ref 619) bx [.int 1] (GridP 1) := fun a b ha hb Q q => c_grid (n := 2) (by w_left) (.inr rfl) (fun h => by cases h) ha hb q
    theorem w_grid0 {g : Gl} {bx : Addr} : BoxW g 4 (.ref 619) bx [.int 0] (GridP 0) := fun a b ha hb Q q => c_grid (n := 3) (by w_left) (.inl rfl) (fun _ => w_grid1) ha hb q
    
end
section
section
variable {g : Gl} {c : Ctx}
theorem for_rng {target : Expr} {body : List Stmt} {it : Addr} {Q : Fl → St → Prop} {σ : Type} (mk : σ → St) (I : Nat → σ → Prop) (ht : nameTarget target = true) (hit : ¬ c.Xc it) (n : Nat)
    (hs : ∀ (i : Nat) s (u : Mu), i < n → I i s → (∀ s', I (i + 1) s' → FOR g c target body it ⟨(mk s').loc, (mk s').cel, (it, u) :: (mk s').mu⟩ Q) → ASW g c target (.int i) ⟨(mk s).loc, (mk s).cel, (it, u) :: (mk s).mu⟩ fun st₂ => XW g c body st₂ (ForK g c target body it Q))
    (hn : ∀ s, I n s → Q .next (mk s)) : ∀ s, I 0 s → FOR g c target body it ⟨(mk s).loc, (mk s).cel, (it, .itR 0 n 1) :: (mk s).mu⟩ Q := by
  have go : ∀ (m i : Nat) s, i + m = n → I i s → FOR g c target body it ⟨(mk s).loc, (mk s).cel, (it, .itR i m 1) :: (mk s).mu⟩ Q := by
    intro m
    induction m with
    | zero =>
      intro i s e hi
      have : i = n := by (first | lia | omega)
      subst this
      exact for_step (nx_rng_end (Int.le_refl _) .here hit (hn s hi))
    | succ m ih =>
      intro i s e hi
      refine for_step (nx_rng ht .here (by (first | lia | omega)) .here ?_)
      refine hs i s _ (by (first | lia | omega)) hi fun s' hi' => ?_
      rw [show ((m + 1 : Nat) : Int) - 1 = m by (first | lia | omega)]
      exact ih (i + 1) s' (by (first | lia | omega)) hi'
  exact fun s hi => go n 0 s (by (first | lia | omega)) hi
theorem small_up {a b z : Int} (h1 : 0 ≤ a) (h2 : a ≤ 1000) (h3 : 0 ≤ b) (h4 : b ≤ 1000) (h5 : 1 ≤ z) (h6 : z ≤ 1000) : Builtin.Range.small a b z = true := by
  have hs : 0 ≤ Builtin.Range.rangeSize a b z ∧ Builtin.Range.rangeSize a b z ≤ 1001 := by
    unfold Builtin.Range.rangeSize
    rw [if_pos (by (first | lia | omega))]
    split
    · have e1 := Int.ediv_nonneg (a := b - a - 1) (b := z) (by (first | lia | omega)) (by (first | lia | omega))
      have e2 := Int.ediv_le_self (a := b - a - 1) z (by (first | lia | omega))
      (first | lia | omega)
    · (first | lia | omega)
  unfold Builtin.Range.small
  rw [if_pos (show z > 0 by (first | lia | omega))]
  simp only [Builtin.Range.rangeFitsLong, Bool.and_eq_true, Bool.or_eq_true, decide_eq_true_eq, beq_iff_eq]
  (first | lia | omega)
theorem size_up {c r j : Nat} (hc : j < c) (hr : 1 ≤ r) : Builtin.Range.rangeSize j ((c * r : Nat) : Int) c = r := by
  have hle : c * 1 ≤ c * r := Nat.mul_le_mul_left _ hr
  unfold Builtin.Range.rangeSize
  rw [if_pos (by (first | lia | omega)), if_pos (by (first | lia | omega))]
  have e : ((c * r : Nat) : Int) - j - 1 = (c - j - 1 : Int) + (c : Int) * ((r : Int) - 1) := by
    rw [Int.natCast_mul, Int.mul_sub]; (first | lia | omega)
  rw [e, Int.add_mul_ediv_left _ _ (by (first | lia | omega)), Int.ediv_eq_zero_of_lt (by (first | lia | omega)) (by (first | lia | omega))]
  (first | lia | omega)
theorem co_cells {n0 : Str} {elt target iter : Expr} {scope : Scope} {pos : Pos} {it acc ca : Addr} {mu : List (Addr × Mu)} {Q : St → Prop} {p1 p2 p3 p4 : Pos} (hit : ¬ c.Xc it)
    (he : elt = .Subscript (.Name (Str.ofString "cells") p1) (.Name (Str.ofString "k") p2) p3) (ht : target = .Name (Str.ofString "k") p4) (G : Gd) (cs : List Nd) (hl : cs.length = G.br.length * G.tl.length) (hz : cs.length ≤ 1000) (hr : G.tl.length ≤ 1000) {j : Nat} (hj : j < G.br.length)
    (q : ∀ o, Q ⟨[(n0, none), (Str.ofString "k", o)], [(Str.ofString "cells", ca, some (.lst (cs.map Nd.D)))], (acc, .lst ((colOf G cs j).map Nd.D)) :: mu⟩) :
    COMP g c elt target iter [] scope pos it acc ⟨[(n0, none), (Str.ofString "k", none)], [(Str.ofString "cells", ca, some (.lst (cs.map Nd.D)))], (acc, .lst []) :: (it, .itR j G.tl.length G.br.length) :: mu⟩ Q := by
  subst he ht
  have go : ∀ (m i : Nat) (o : Option D), i + m = G.tl.length → COMP g c (.Subscript (.Name (Str.ofString "cells") p1) (.Name (Str.ofString "k") p2) p3) (.Name (Str.ofString "k") p4) iter [] scope pos it acc ⟨[(n0, none), (Str.ofString "k", o)], [(Str.ofString "cells", ca, some (.lst (cs.map Nd.D)))], (acc, .lst (((List.range i).filterMap fun i => cs[j + i * G.br.length]?).map Nd.D)) :: (it, .itR ((j + i * G.br.length : Nat) : Int) m G.br.length) :: mu⟩ Q := by
    intro m
    induction m with
    | zero =>
      intro i o e
      have : i = G.tl.length := by (first | lia | omega)
      subst this
      exact co_rend (Int.le_refl _) hit (q o)
    | succ m ih =>
      intro i o e
      have hb : i * G.br.length + G.br.length ≤ cs.length := by
        rw [hl, Nat.mul_comm G.br.length]
        calc i * G.br.length + G.br.length = (i + 1) * G.br.length := by rw [Nat.succ_mul]
          _ ≤ G.tl.length * G.br.length := Nat.mul_le_mul_right _ (by (first | lia | omega))
      have hlt : j + i * G.br.length < cs.length := by (first | lia | omega)
      have hfl : (((List.range i).filterMap fun i => cs[j + i * G.br.length]?).map Nd.D).length ≤ 1000 := by
        rw [List.length_map]
        have := List.length_filterMap_le (fun i => cs[j + i * G.br.length]?) (List.range i)
        rw [List.length_range] at this
        (first | lia | omega)
      refine co_r rfl (by (first | lia | omega)) (by (first | lia | omega)) (as_name ⟨_, .loc (.there .here), ?_⟩)
      refine ew_sub (ew_cel .here (ew_loc (.there .here) ?_))
      refine it_idx (d := (cs[j + i * G.br.length]).D) rfl (by (first | lia | omega)) (by rw [List.length_map]; (first | lia | omega)) (by rw [List.length_map]; (first | lia | omega)) ?_ ⟨_, _, rfl, ?_⟩
      · rw [Int.toNat_natCast, List.getElem?_map, List.getElem?_eq_getElem hlt]; rfl
      · rw [show ((m + 1 : Nat) : Int) - 1 = m by (first | lia | omega), show ((j + i * G.br.length : Nat) : Int) + G.br.length = ((j + (i + 1) * G.br.length : Nat) : Int) by rw [Nat.succ_mul]; (first | lia | omega)]
        have es : ((List.range i).filterMap fun i => cs[j + i * G.br.length]?).map Nd.D ++ [(cs[j + i * G.br.length]).D] = ((List.range (i + 1)).filterMap fun i => cs[j + i * G.br.length]?).map Nd.D := by
          rw [List.range_succ, List.filterMap_append, List.map_append, List.filterMap_cons, List.getElem?_eq_getElem hlt]; rfl
        rw [es]
        exact ih (i + 1) _ (by (first | lia | omega))
  have := go G.tl.length 0 none (by (first | lia | omega))
  simpa using this
theorem co_one {α : Type} {n0 : Str} {elt target iter : Expr} {scope : Scope} {pos : Pos} {it acc : Addr} {cc : List (Str × Addr × Option D)} {mu : List (Addr × Mu)} {Q : St → Prop} {p1 p2 p3 p4 : Pos} {vn : Str} {ix : Nat} (hit : ¬ c.Xc it)
    (he : elt = .Subscript (.Name vn p1) (.Constant (.int (OfNat.ofNat ix)) 0 p2) p3) (ht : target = .Name vn p4) (hix : Nat.ble ix 100 = true) (f h : α → D) (r : α → List D) (hf : ∀ x, f x = .tup (r x)) (hh : ∀ x, (r x)[ix]? = some (h x)) (xs : List α) (hz : xs.length ≤ 1000)
    (q : ∀ o, Q ⟨[(n0, none), (vn, o)], cc, (acc, .lst (xs.map h)) :: mu⟩) :
    COMP g c elt target iter [] scope pos it acc ⟨[(n0, none), (vn, none)], cc, (acc, .lst []) :: (it, .itL 0 (xs.map f)) :: mu⟩ Q := by
  subst he ht
  refine comp_inv (α := α) (σ := Nat × List D × Option D) (fun ys z => ⟨[(n0, none), (vn, z.2.2)], cc, (acc, .lst z.2.1) :: (it, .itL z.1 (ys.map f)) :: mu⟩) (fun ys z => z.2.1 ++ ys.map h = xs.map h) ?_ ?_ xs (0, [], none) (by simp)
  · rintro x ys ⟨zi, ze, zo⟩ e ih
    have hl := congrArg List.length e
    simp only [List.length_append, List.length_map] at hl
    refine co_l rfl (by simp only; (first | lia | omega)) (as_name ⟨_, .loc (.there .here), ?_⟩)
    refine ew_sub (ew_loc (.there .here) (ew_int ?_))
    rw [hf x]
    refine it_litT rfl hix (hh x) ⟨_, _, rfl, ?_⟩
    exact ih (zi + 1, ze ++ [h x], some (.tup (r x))) (by show (ze ++ [h x]) ++ ys.map h = _; rw [← e, List.append_assoc]; rfl) |> fun z => by simpa using z
  · rintro ⟨zi, ze, zo⟩ e
    simp only [List.map_nil, List.append_nil] at e
    simp only
    rw [e]
    exact co_lend hit (q _)
theorem ew_rc3 {elt target e1 e2 e3 : Expr} {ifs : List Expr} {scope : Scope} {pos p p' : Pos} {l₀ cl₀ mu₀} {Q : D → St → Prop} (hsc : compSc scope = true) (hfr : freeIn cl₀ scope.names = true)
    (h : EW g c (rangeE p [e1, e2, e3] p') ⟨l₀, cl₀, mu₀⟩ (KRc g c elt target (rangeE p [e1, e2, e3] p') ifs scope pos Q)) :
    EW g c (.ListComp elt [⟨target, rangeE p [e1, e2, e3] p', ifs, 0⟩] scope pos) ⟨l₀, cl₀, mu₀⟩ Q := ew_rcomp rfl hsc hfr h
end
end
section
set_option genInjectivity false in
set_option genSizeOf false in
/-- the loop over the cells -/
structure Cl where
  cs : List Nd
  hid : D
  k : Option D
  a : Int
  b : Int
structure ClI (G : Gd) (spot : Int) (inner : D) (within : Bool) (i : Nat) (z : Cl) : Prop where
  len : z.cs.length = i
  ok : CellsOk G z.cs
  hid : if 0 ≤ spot ∧ spot < i then HidP spot inner within z.hid else z.hid = .tup []
  ha : Nn z.a
  hb : Nn z.b
noncomputable abbrev madeL (bx : Addr) (G : Gd) (spot : Int) (inner : D) (byc within : Bool) (hidden columns k level upright bands j band i : Option D) : List (Str × Option D) :=
  [(Str.ofString "box", some (D.mlst bx)), (Str.ofString "grid", some (G.D spot inner)), (Str.ofString "by_columns", some (D.bool byc)), (Str.ofString "within", some (D.bool within)), (Str.ofString "beside", some (D.lst (G.fb.map Fw.D))), (Str.ofString "beneath", some (D.lst (G.fv.map Fw.D))),
   (Str.ofString "broad", some (D.lst (G.br.map D.int))), (Str.ofString "tall", some (D.lst (G.tl.map prD))), (Str.ofString "kinds", some (D.lst (G.ks.map D.int))), (Str.ofString "spot", some (D.int spot)), (Str.ofString "inner", some inner), (Str.ofString "sizes", some (D.tup [.int G.ob, .int G.bd, .int G.oh, .int G.ht, .int G.dp, .int G.mo])),
   (Str.ofString "hidden", hidden), (Str.ofString "columns", columns), (Str.ofString "k", k), (Str.ofString "level", level), (Str.ofString "upright", upright), (Str.ofString "bands", bands), (Str.ofString "j", j), (Str.ofString "band", band), (Str.ofString "i", i)]
theorem cellN_ok {k w h d : Int} (h0 : 0 ≤ k) (h3 : k ≤ 3) : (cellN k w h d).cell ∧ (cellN k w h d).wd = w ∧ (cellN k w h d).ht = h ∧ (cellN k w h d).dp = d := by
  unfold cellN
  split
  · exact ⟨trivial, rfl, rfl, rfl⟩
  · split
    · exact ⟨trivial, rfl, rfl, rfl⟩
    · exact ⟨⟨by w_left, by w_left⟩, rfl, rfl, rfl⟩
theorem nd_snoc {cs : List Nd} {n : Nd} : cs.map Nd.D ++ [n.D] = (cs ++ [n]).map Nd.D := by rw [List.map_append]; rfl
set_option genInjectivity false in
set_option genSizeOf false in
/-- the loop over the bands -/
structure Br where
  xs : List Bd4
  o1 : Option D
  o2 : Option D
  a : Int
  b : Int
structure BrI (ts : List (Int × Int × Int)) (i : Nat) (z : Br) : Prop where
  xs : z.xs.map szs = ts.take i
  ha : Nn z.a
  hb : Nn z.b
theorem BrI.len {ts : List (Int × Int × Int)} {i : Nat} {z : Br} (h : BrI ts i z) : z.xs.length ≤ ts.length := by
  have := congrArg List.length h.xs
  rw [List.length_map, List.length_take] at this; w_left
theorem BrI.step {ts : List (Int × Int × Int)} {i : Nat} {z : Br} {x : Bd4} (h : BrI ts i z) (hx : ts[i]? = some (szs x)) {o1 o2 : Option D} {a b : Int} (ha : Nn a) (hb : Nn b) : BrI ts (i + 1) ⟨z.xs ++ [x], o1, o2, a, b⟩ :=
  ⟨by rw [List.map_append, h.xs, List.take_add_one, hx]; rfl, ha, hb⟩
noncomputable abbrev rowN (G : Gd) (x : Bd4) : Nd := bandN 2 x.W x.H x.E x.its (zb G)
noncomputable abbrev colN (G : Gd) (x : Bd4) : Nd := bandN 3 x.W x.H x.E x.its (zv G)
theorem rows_facts {G : Gd} {xs : List Bd4} (h : RowsX G xs) : (xs.map (rowN G)).map (fun n => (n.ht, n.dp)) = G.tl ∧ (∀ n ∈ xs.map (rowN G), n.wd = G.bd) ∧ ∀ n ∈ xs.map (rowN G), n.cell := by
  refine ⟨?_, fun n hn => ?_, fun n hn => ?_⟩
  · rw [List.map_map]
    have := congrArg (List.map Prod.snd) h
    rw [List.map_map, List.map_map] at this
    refine Eq.trans this ?_
    exact (List.map_congr_left fun p _ => rfl).trans (List.map_id _)
  · obtain ⟨x, hx, rfl⟩ := List.mem_map.mp hn
    have : szs x ∈ xs.map szs := List.mem_map_of_mem hx
    rw [h] at this
    obtain ⟨p, _, e⟩ := List.mem_map.mp this
    exact (congrArg Prod.fst e).symm
  · obtain ⟨x, hx, rfl⟩ := List.mem_map.mp hn
    exact ⟨by decide, by decide⟩
theorem cols_facts {G : Gd} {xs : List Bd4} (h : ColsX G xs) : (xs.map (colN G)).map Nd.wd = G.br ∧ (∀ n ∈ xs.map (colN G), n.ht = G.ht) ∧ (∀ n ∈ xs.map (colN G), n.dp = G.dp) ∧ ∀ n ∈ xs.map (colN G), n.cell := by
  have one : ∀ x ∈ xs, x.H = G.ht ∧ x.E = G.dp := fun x hx => by
    have : szs x ∈ xs.map szs := List.mem_map_of_mem hx
    rw [h] at this
    obtain ⟨p, _, e⟩ := List.mem_map.mp this
    exact ⟨(congrArg (fun t => t.2.1) e).symm, (congrArg (fun t => t.2.2) e).symm⟩
  refine ⟨?_, fun n hn => ?_, fun n hn => ?_, fun n hn => ?_⟩
  · rw [List.map_map]
    have := congrArg (List.map Prod.fst) h
    rw [List.map_map, List.map_map] at this
    refine Eq.trans this ?_
    exact (List.map_congr_left fun p _ => rfl).trans (List.map_id _)
  · obtain ⟨x, hx, rfl⟩ := List.mem_map.mp hn
    exact (one x hx).1
  · obtain ⟨x, hx, rfl⟩ := List.mem_map.mp hn
    exact (one x hx).2
  · obtain ⟨x, hx, rfl⟩ := List.mem_map.mp hn
    exact ⟨by decide, by decide⟩
theorem row_snoc {f : Bd4 → D} {xs : List Bd4} {x : Bd4} : xs.map f ++ [f x] = (xs ++ [x]).map f := by rw [List.map_append]; rfl
local macro_rules | `(tactic| cell_step) => `(tactic| (first
  | (guard_target = EW _ _ (.Subscript _ (.Slice ..) _) ..; with_reducible refine ew_run rfl ?_)
  | (guard_target = EW _ _ (.ListComp ..) ..; with_reducible refine ew_rc3 (by kernel_rfl) (by kernel_rfl) ?_)
  | fail "no step"))
theorem c_made {g : Gl} {n : Nat} {bx : Addr} {a b : Int} {G : Gd} {spot : Int} {inner : D} {byc within : Bool} {Q : D → List (Addr × Mu) → Prop} (hn : 7 ≤ n) (hG : G.ok) (hin : InnP G.br G.tl spot inner) (hrec : ∀ G1 : Gd, 0 ≤ spot → G1.ok → inner = G1.D (-1) (.tup []) → BoxW g n (.ref 641) bx [inner, .bool within, .bool false] (MadeP G1 within (.tup []))) (ha : Nn a) (hb : Nn b) (q : ∀ d a' b', (∃ hid, HidP spot inner within hid ∧ MadeP G byc hid d) → Nn a' → Nn b' → Q d (bxM bx a' b')) : CallW g (n+1) (.ref 641) [.mlst bx, G.D spot inner, .bool byc, .bool within] (bxM bx a b) Q := by
  refine CallW.drop ?_
  refine callW_def (n := n) (dds := []) (dvs := []) rfl (by kernel_rfl) (by kernel_rfl) (fun _ _ => rfl) ?_ ?_
  · intro X s vs b a
    obtain ⟨v0, r, rfl, a0, a⟩ := a
    obtain ⟨v1, r, rfl, a1, a⟩ := a
    obtain ⟨v2, r, rfl, a2, a⟩ := a
    obtain ⟨v3, r, rfl, a3, a⟩ := a
    obtain rfl : r = [] := a
    exact BindsTo.of_eq rfl
  · intro c hsc hcn
    apply Exists.intro
    apply Exists.intro
    apply And.intro
    · cb_eq
    repeat' ((fail_if_success (with_reducible show XW1 _ _ (.Assign [.Tuple [_, _, _] _ _] _ _) _ _)); cell_step)
    have l1 := hG.l1
    have l2 := hG.l2
    have c1 := hG.c1
    have r1 := hG.r1
    have hkl := hG.kl
    have hcr : G.br.length * G.tl.length ≤ 4 * 3 := Nat.mul_le_mul (by w_left) (by w_left)
    have hcr1 : 1 * 1 ≤ G.br.length * G.tl.length := Nat.mul_le_mul (by w_left) (by w_left)
    have hcri : ((G.br.length * G.tl.length : Nat) : Int) = (G.br.length : Int) * G.tl.length := Int.natCast_mul _ _
    refine xw_unpackC (x := Str.ofString "cells") rfl (kind_of hsc (by kernel_rfl)) (.head _) ?_
    refine ew_tup rfl (lw_cons rfl (ew_mnil fun cl hcl => ?_))
    repeat' cell_step
    refine cq_len (by rw [List.length_map]; w_left) ?_
    rw [List.length_map]
    repeat' cell_step
    dsimp only
    refine cq_len (by rw [List.length_map]; w_left) ?_
    rw [List.length_map]
    repeat' cell_step
    rw [← hcri]
    refine cq_range1 ?_
    refine iw_rng (small1 (by w_left)) (fun it hit => ?_)
    rw [size1]
    refine for_rng (σ := Cl) (fun z => ⟨madeL bx G spot inner byc within (some z.hid) (some (.int G.br.length)) z.k none none none none none none, [(Str.ofString "cells", cellAt c (Str.ofString "cells"), some (.mlst cl))], (cl, .lst (z.cs.map Nd.D)) :: bxM bx z.a z.b⟩) (ClI G spot inner within) rfl hit (G.br.length * G.tl.length) ?hs ?hn ⟨[], .tup [], none, a, b⟩ ⟨rfl, ⟨fun _ h => absurd h List.not_mem_nil, fun k n h => by simp at h⟩, by rw [if_neg (by w_left)], ha, hb⟩
    case hs =>
      rintro i z u hi ⟨zl, zc, zh, za, zb⟩ ih
      dsimp only
      have hgc : ∀ nd : Nd, nd.cell → G.br[i % G.br.length]? = some nd.wd → G.tl[i / G.br.length]? = some (nd.ht, nd.dp) → (z.cs ++ [nd]).length = i + 1 ∧ CellsOk G (z.cs ++ [nd]) := fun nd h1 h2 h3 => by
        refine ⟨by rw [List.length_append, List.length_singleton, zl], fun m hm => ?_, fun k m hk => ?_⟩
        · rcases List.mem_append.mp hm with hm | hm
          · exact zc.cell m hm
          · rw [List.mem_singleton.mp hm]; exact h1
        · by_cases hki : k < z.cs.length
          · rw [List.getElem?_append_left hki] at hk
            exact zc.at' k m hk
          · rw [List.getElem?_append_right (by w_left)] at hk
            have : k = i := by
              have := (List.getElem?_eq_some_iff.mp hk).1
              simp at this; w_left
            subst this
            rw [zl, Nat.sub_self] at hk
            obtain rfl : nd = m := by simpa using hk
            exact ⟨h2, h3⟩
      have em : ((i : Int).fmod G.br.length).toNat = i % G.br.length := by rw [Int.fmod_eq_emod_of_nonneg _ (by w_left), ← Int.natCast_emod, Int.toNat_natCast]
      have ed : ((i : Int).fdiv G.br.length).toNat = i / G.br.length := by rw [Int.fdiv_eq_ediv_of_nonneg _ (by w_left), ← Int.natCast_ediv, Int.toNat_natCast]
      have hm0 := fm (a := i) (m := G.br.length) (by w_left)
      have hd0 := fd (a := i) (m := G.br.length) (by w_left) (by w_left)
      have hml : i % G.br.length < G.br.length := Nat.mod_lt _ (by w_left)
      have hdl : i / G.br.length < G.tl.length := Nat.div_lt_of_lt_mul hi
      repeat' cell_step
      · rename_i hks
        rcases hin with ⟨e, _⟩ | ⟨G1, ok1, _, _, e1, e2, e3, e4, e5⟩
        · w_left
        rw [← hks, em] at e4
        rw [← hks, ed] at e5
        refine cq_box (hrec G1 e2 ok1 e1) (.there (.there .here)) (by w_left) za zb (fun d a' b' hd ha' hb' => ?_)
        obtain ⟨nd, rr1, rr2, rfl, h1, h2, h3, h4⟩ := MadeP.head hd
        repeat' cell_step
        refine cq_append (.there .here) (by rw [List.length_map]; w_left) (.there .here) ?_
        repeat' cell_step
        rw [nd_snoc]
        obtain ⟨g1, g2⟩ := hgc nd h1 (by rw [h2]; exact e4) (by rw [h3, h4]; exact e5)
        exact ih ⟨z.cs ++ [nd], _, _, a', b'⟩ ⟨g1, g2, by rw [if_pos ⟨e2, by w_left⟩]; exact .inr ⟨e2, G1, ok1, e1, hd⟩, ha', hb'⟩
      · rename_i hks
        have hk := hG.k1 _ (List.getElem_mem (l := G.ks) (n := i) (by w_left))
        have hb' := hG.b1 _ (List.getElem_mem hml)
        have ht' := hG.t1 _ (List.getElem_mem hdl)
        refine it_idx (d := .int (G.ks[i]'(by w_left))) rfl (by w_left) (by rw [List.length_map]; w_left) (by rw [List.length_map]; w_left) (by rw [Int.toNat_natCast, List.getElem?_map, List.getElem?_eq_getElem (by w_left)]; rfl) ?_
        repeat' cell_step
        refine it_idx (d := .int (G.br[i % G.br.length])) rfl hm0.1 (by rw [List.length_map]; w_left) (by rw [List.length_map]; w_left) (by rw [em, List.getElem?_map, List.getElem?_eq_getElem hml]; rfl) ?_
        repeat' cell_step
        refine it_idx (d := prD (G.tl[i / G.br.length])) rfl hd0 (by rw [List.length_map]; w_left) (by rw [List.length_map]; w_left) (by rw [ed, List.getElem?_map, List.getElem?_eq_getElem hdl]; rfl) ?_
        repeat' cell_step
        obtain ⟨q1, q2, q3, q4⟩ := cellN_ok (w := G.br[i % G.br.length]) (h := G.tl[i / G.br.length].1) (d := G.tl[i / G.br.length].2) hk.1 hk.2
        refine cq_pure (c_cell hk.1 hk.2 ⟨by w_left, by w_left⟩ ⟨by w_left, by w_left⟩ ⟨by w_left, by w_left⟩) (by w_left) ?_
        repeat' cell_step
        refine cq_append (.there .here) (by rw [List.length_map]; w_left) (.there .here) ?_
        repeat' cell_step
        rw [nd_snoc]
        obtain ⟨g1, g2⟩ := hgc _ q1 (by rw [q2]; exact List.getElem?_eq_getElem hml) (by rw [q3, q4]; exact List.getElem?_eq_getElem hdl)
        refine ih ⟨z.cs ++ [_], z.hid, _, z.a, z.b⟩ ⟨g1, g2, ?_, za, zb⟩
        by_cases hsp : 0 ≤ spot ∧ spot < (i : Int)
        · rw [if_pos ⟨hsp.1, by w_left⟩]; rwa [if_pos hsp] at zh
        · rw [if_neg (by w_left)]; rwa [if_neg hsp] at zh
    case hn =>
      rintro z ⟨zl, zc, zh, za, zb⟩
      have hhid : HidP spot inner within z.hid := by
        rcases hin with ⟨e1, e2⟩ | ⟨G1, _, _, _, _, e1, e2, _⟩
        · rw [if_neg (by w_left)] at zh
          exact .inl ⟨e1, zh⟩
        · rwa [if_pos (by w_left)] at zh
      refine ko_next ?_
      refine xw_frz .here hcl .refl (.turn (.lst rfl) .refl) ?_
      refine xw_cons ?_
      refine xw_three rfl rfl (by kernel_rfl) rfl rfl rfl (by kernel_rfl) (by kernel_rfl) (by dl_mem) (by dl_mem) (by dl_mem) ?_
      refine lw_cons rfl ?_
      repeat' ((fail_if_success (with_reducible show EW _ _ (.List [] _) _ _)); cell_step)
      refine ew_mnil fun bl hbl => ?_
      repeat' ((fail_if_success (with_reducible show XW _ _ _ _ _)); cell_step)
      dsimp only
      have hn := hG.nums
      cases byc
      · refine xw_cons ?_
        repeat' ((fail_if_success (with_reducible show XW1 _ _ (.For _ _ _ _ _) _ _)); cell_step)
        cell_step
        repeat' cell_step
        refine cq_len (by rw [List.length_map]; w_left) ?_
        rw [List.length_map]
        repeat' cell_step
        refine cq_range1 ?_
        refine iw_rng (small1 (by w_left)) (fun it hit => ?_)
        rw [size1]
        refine for_rng (σ := Br) (fun y => ⟨madeL bx G spot inner false within (some z.hid) (some (.int G.br.length)) z.k (some (.tup [.int G.ob, .int G.bd, .int 0])) (some (.tup [.int G.oh, .int G.ht, .int G.mo])) (some (.mlst bl)) none y.o1 y.o2, [(Str.ofString "cells", cellAt c (Str.ofString "cells"), some (.lst (z.cs.map Nd.D)))], (bl, .lst (y.xs.map (rowB G))) :: bxM bx y.a y.b⟩) (BrI (G.tl.map fun p => (G.bd, p.1, p.2))) rfl hit G.tl.length ?_ ?_ ⟨[], none, none, z.a, z.b⟩ ⟨rfl, za, zb⟩
        · rintro i y u hi hI ih
          dsimp only
          have hIl := hI.len
          rw [List.length_map] at hIl
          have hgi := List.getElem?_eq_getElem hi
          obtain ⟨hr1, hr2⟩ := zc.row zl (by w_left) hgi
          have htb := hG.t1 _ (List.getElem_mem hi)
          have hle : (i + 1) * G.br.length ≤ z.cs.length := by
            rw [zl, Nat.mul_comm G.br.length]; exact Nat.mul_le_mul_right _ hi
          repeat' cell_step
          refine ⟨_, i * G.br.length, (i + 1) * G.br.length, rfl, rfl, rfl, by rw [List.length_map]; w_left, Nat.mul_le_mul_right _ (by w_left), by rw [List.length_map]; exact hle, ?_⟩
          rw [show (i + 1) * G.br.length - i * G.br.length = G.br.length by rw [Nat.succ_mul]; w_left, ← List.map_drop, ← List.map_take]
          repeat' cell_step
          refine cq_box (w_line hG (H := G.tl[i].1) (E := G.tl[i].2) (fun m hm => zc.cell m (List.mem_of_mem_drop (List.mem_of_mem_take hm))) hr1 (fun m hm => (hr2 m hm).1) (fun m hm => (hr2 m hm).2) (by w_left) (by w_left)) (.there (.there .here)) (by w_left) hI.ha hI.hb (fun d a' b' hd ha' hb' => ?_)
          obtain ⟨its, rfl⟩ := hd
          repeat' cell_step
          refine cq_append (.there .here) (by rw [List.length_map]; w_left) (.there .here) ?_
          repeat' cell_step
          have es := row_snoc (f := rowB G) (xs := y.xs) (x := ⟨G.bd, G.tl[i].1, G.tl[i].2, its⟩)
          rw [es]
          exact ih ⟨y.xs ++ [_], _, _, a', b'⟩ (hI.step (by rw [List.getElem?_map, hgi]; rfl) ha' hb')
        · rintro y hI
          have hR : RowsX G y.xs := by rw [RowsX, hI.xs, List.take_of_length_le (by rw [List.length_map]; w_left)]
          have hIl := hI.len
          rw [List.length_map] at hIl
          refine ko_next ?_
          refine xw_frz .here hbl (.cons (.cons (.cons (.cons (.cons (.cons (.cons (.cons (.cons (.cons (.cons (.cons (.cons (.cons (.cons (.cons (.cons (.turn (.lst rfl) .refl)))))))))))))))))) .refl ?_
          repeat' cell_step
          rename_i it6 acc6 c6 hs6 hc6 hit6
          refine co_one (f := rowB G) (h := fun x => (rowN G x).D) (r := fun x => [(rowN G x).D, _, _]) hit6 rfl rfl rfl (fun _ => rfl) (fun _ => rfl) y.xs (by w_left) (fun o6 => ?_)
          obtain ⟨f1, f2, f3⟩ := rows_facts hR
          have em : (y.xs.map fun x => (rowN G x).D) = (y.xs.map (rowN G)).map Nd.D := by rw [List.map_map]; rfl
          rw [em]
          repeat' cell_step
          refine cq_box (w_colm hG (W := G.bd) f3 f1 f2 (by have := hn.bd; w_left)) .here (by w_left) hI.ha hI.hb (fun d a' b' hd ha' hb' => ?_)
          obtain ⟨its, rfl⟩ := hd
          repeat' cell_step
          exact ⟨_, List.Sublist.refl _, q _ a' b' ⟨z.hid, hhid, its, y.xs, hR, rfl⟩ ha' hb'⟩
      · refine xw_cons ?_
        repeat' ((fail_if_success (with_reducible show XW1 _ _ (.For _ _ _ _ _) _ _)); cell_step)
        cell_step
        repeat' cell_step
        refine cq_range1 ?_
        refine iw_rng (small1 (by w_left)) (fun it hit => ?_)
        rw [size1]
        refine for_rng (σ := Br) (fun y => ⟨madeL bx G spot inner true within (some z.hid) (some (.int G.br.length)) z.k (some (.tup [.int G.ob, .int G.bd, .int 0])) (some (.tup [.int G.oh, .int G.ht, .int G.mo])) (some (.mlst bl)) y.o1 y.o2 none, [(Str.ofString "cells", cellAt c (Str.ofString "cells"), some (.lst (z.cs.map Nd.D)))], (bl, .lst (y.xs.map (colB G))) :: bxM bx y.a y.b⟩) (BrI (G.br.map fun w => (w, G.ht, G.dp))) rfl hit G.br.length ?_ ?_ ⟨[], none, none, z.a, z.b⟩ ⟨rfl, za, zb⟩
        · rintro j y u hj hI ih
          dsimp only
          have hIl := hI.len
          rw [List.length_map] at hIl
          have hgj := List.getElem?_eq_getElem hj
          obtain ⟨hr1, hr2, hr3⟩ := zc.col zl hgj
          have htb := hG.b1 _ (List.getElem_mem hj)
          repeat' cell_step
          refine cq_len (by rw [List.length_map]; w_left) ?_
          rw [List.length_map, zl]
          repeat' cell_step
          refine cq_range3 (by w_left) (small_div (by w_left) (by w_left)) ?_
          refine ⟨_, _, _, _, _, _, _, _, rfl, small_up (by w_left) (by w_left) (by w_left) (by w_left) (by w_left) (by w_left), rfl, by cell_enter, fun it7 acc7 c7 hs7 hc7 hit7 => ?_⟩
          rw [size_up hj (by w_left)]
          refine co_cells hit7 rfl rfl G z.cs zl (by w_left) (by w_left) hj (fun o7 => ?_)
          repeat' cell_step
          refine cq_box (w_colm hG (W := G.br[j]) (fun m hm => zc.cell m (hr3 m hm)) hr1 hr2 (by w_left)) (.there (.there .here)) (by w_left) hI.ha hI.hb (fun d a' b' hd ha' hb' => ?_)
          obtain ⟨its, rfl⟩ := hd
          repeat' cell_step
          refine cq_append (.there .here) (by rw [List.length_map]; w_left) (.there .here) ?_
          repeat' cell_step
          have es := row_snoc (f := colB G) (xs := y.xs) (x := ⟨G.br[j], G.ht, G.dp, its⟩)
          rw [es]
          exact ih ⟨y.xs ++ [_], _, _, a', b'⟩ (hI.step (by rw [List.getElem?_map, hgj]; rfl) ha' hb')
        · rintro y hI
          have hR : ColsX G y.xs := by rw [ColsX, hI.xs, List.take_of_length_le (by rw [List.length_map]; w_left)]
          have hIl := hI.len
          rw [List.length_map] at hIl
          refine ko_next ?_
          refine xw_frz .here hbl (.cons (.cons (.cons (.cons (.cons (.cons (.cons (.cons (.cons (.cons (.cons (.cons (.cons (.cons (.cons (.cons (.cons (.turn (.lst rfl) .refl)))))))))))))))))) .refl ?_
          repeat' cell_step
          rename_i it6 acc6 c6 hs6 hc6 hit6
          refine co_one (f := colB G) (h := fun x => (colN G x).D) (r := fun x => [(colN G x).D, _, _]) hit6 rfl rfl rfl (fun _ => rfl) (fun _ => rfl) y.xs (by w_left) (fun o6 => ?_)
          obtain ⟨f1, f2, f3, f4⟩ := cols_facts hR
          have em : (y.xs.map fun x => (colN G x).D) = (y.xs.map (colN G)).map Nd.D := by rw [List.map_map]; rfl
          rw [em]
          repeat' cell_step
          refine cq_box (w_line hG (H := G.ht) (E := G.dp) f4 f1 f2 f3 (by have := hn.ht; w_left) (by have := hn.dp; w_left)) .here (by w_left) hI.ha hI.hb (fun d a' b' hd ha' hb' => ?_)
          obtain ⟨its, rfl⟩ := hd
          repeat' cell_step
          exact ⟨_, List.Sublist.refl _, q _ a' b' ⟨z.hid, hhid, its, y.xs, hR, rfl⟩ ha' hb'⟩
    
end
section
theorem w_made1 {g : Gl} {bx : Addr} {G : Gd} (hG : G.ok) {byc within : Bool} : BoxW g 8 (.ref 641) bx [G.D (-1) (.tup []), .bool byc, .bool within] (MadeP G byc (.tup [])) := fun a b ha hb Q q =>
  c_made (n := 7) (by (first | lia | omega)) hG (.inl ⟨rfl, rfl⟩) (fun G1 h => absurd h (by decide)) ha hb fun d a' b' ⟨hid, h1, h2⟩ ha' hb' => by
    rcases h1 with ⟨_, rfl⟩ | ⟨h, _⟩
    · exact q _ _ _ h2 ha' hb'
    · exact absurd h (by decide)
theorem w_made0 {g : Gl} {bx : Addr} {G : Gd} (hG : G.ok) {spot : Int} {inner : D} (hi : InnP G.br G.tl spot inner) {byc within : Bool} : BoxW g 9 (.ref 641) bx [G.D spot inner, .bool byc, .bool within] (fun d => ∃ hid, HidP spot inner within hid ∧ MadeP G byc hid d) := fun a b ha hb Q q =>
  c_made (n := 8) (by (first | lia | omega)) hG hi (fun G1 _ ok1 e => by rw [e]; exact w_made1 ok1) ha hb q
section
variable {g : Gl} {c : Ctx}
theorem co_map {α : Type} {n0 vn : Str} {elt target iter : Expr} {scope : Scope} {pos pk : Pos} {it acc : Addr} {cc : List (Str × Addr × Option D)} {mu : List (Addr × Mu)} {Q : St → Prop} (hit : ¬ c.Xc it) (ht : target = .Name vn pk) (f h : α → D) (xs : List α) (hz : xs.length ≤ 1000)
    (he : ∀ x (es : List D) (u : Mu) (Q' : D → St → Prop), Q' (h x) ⟨[(n0, none), (vn, some (f x))], cc, (acc, .lst es) :: (it, u) :: mu⟩ → EW g c elt ⟨[(n0, none), (vn, some (f x))], cc, (acc, .lst es) :: (it, u) :: mu⟩ Q')
    (q : ∀ o, Q ⟨[(n0, none), (vn, o)], cc, (acc, .lst (xs.map h)) :: mu⟩) :
    COMP g c elt target iter [] scope pos it acc ⟨[(n0, none), (vn, none)], cc, (acc, .lst []) :: (it, .itL 0 (xs.map f)) :: mu⟩ Q := by
  subst ht
  have go : ∀ (ys : List α) (i : Nat) (es : List D) (o : Option D), es ++ ys.map h = xs.map h → COMP g c elt (.Name vn pk) iter [] scope pos it acc ⟨[(n0, none), (vn, o)], cc, (acc, .lst es) :: (it, .itL i (ys.map f)) :: mu⟩ Q := by
    intro ys
    induction ys with
    | nil =>
      intro i es o e
      rw [List.map_nil, List.append_nil] at e
      rw [e]
      exact co_lend hit (q o)
    | cons x ys ih =>
      intro i es o e
      have hl := congrArg List.length e
      simp only [List.length_append, List.length_map] at hl
      refine co_l rfl (by (first | lia | omega)) (as_name ⟨_, .loc (.there .here), he x _ _ _ ⟨_, _, rfl, ?_⟩⟩)
      exact ih (i + 1) (es ++ [h x]) _ (by rw [← e, List.append_assoc]; rfl)
  exact go xs 0 [] none rfl
end
theorem Up.frz {y : Str} {acc : Addr} {ds : List D} {l l' : List (Str × Option D)} (u : Up y (.lst ds) l l') : ∃ l'', Up y (.mlst acc) l l'' ∧ Lz acc (.lst ds) l'' l' := by
  induction u with
  | here => exact ⟨_, .here, .turn (.lst rfl) .refl⟩
  | there _ ih =>
    obtain ⟨l'', h1, h2⟩ := ih
    exact ⟨_, .there h1, .cons h2⟩
inductive KUp (y : Str) (d : D) (l : List (Str × Option D)) (cl : List (Str × Addr × Option D)) (mu : List (Addr × Mu)) (Q : St → Prop) : Prop
  | mk (l' : List (Str × Option D)) (u : Up y d l l') (q : Q ⟨l', cl, mu⟩)
theorem ex_up {y : Str} {d : D} {l l' : List (Str × Option D)} {cl : List (Str × Addr × Option D)} {mu : List (Addr × Mu)} {Q : St → Prop} (u : Up y d l l') (q : Q ⟨l', cl, mu⟩) : KUp y d l cl mu Q := ⟨l', u, q⟩
noncomputable abbrev KUpQ (g : Gl) (c : Ctx) (y : Str) (xs : List Stmt) (Q : Fl → St → Prop) (l : List (Str × Option D)) (cl : List (Str × Addr × Option D)) : D → St → Prop := fun d st => KUp y d l cl st.mu (KX g c xs Q)
inductive KXl (g : Gl) (c : Ctx) (elt target iter : Expr) (ifs : List Expr) (scope : Scope) (pos : Pos) (y : Str) (xs : List Stmt) (Q : Fl → St → Prop) (d : D) (st : St) : Prop
  | mk (ds : List D) (l : List (Str × Option D)) (cl : List (Str × Addr × Option D)) (mu : List (Addr × Mu)) (lc : List (Str × Option D)) (cc : List (Str × Addr × Option D)) (e : d = .lst ds) (e' : st = ⟨l, cl, mu⟩) (hk : ScK cl scope.names lc cc)
    (h : ∀ it acc c', c'.env.scope = relS scope → c'.n = c.n → ¬ c'.Xc it → COMP g c' elt target iter ifs scope pos it acc ⟨lc, cc, (acc, .lst []) :: (it, .itL 0 ds) :: mu⟩ (KCd acc l cl cc (KUpQ g c y xs Q l cl)))
/-- a name that stores what a comprehension over a list makes -/
theorem xw_lcomp {g : Gl} {c : Ctx} {elt target iter : Expr} {ifs : List Expr} {scope : Scope} {pos py spos : Pos} {y : Str} {xs : List Stmt} {l₀ cl₀ mu₀} {Q : Fl → St → Prop} (hl : (py.line == pos.line) = true) (hn : notSetE iter = true) (hsc : compSc scope = true) (hfr : freeIn cl₀ scope.names = true)
    (hy : Nm y l₀) (hny : (scope.names.any fun x => match x with | (n, k) => n == y && (k == .local || k == .cell)) = false)
    (h : EW g c iter ⟨l₀, cl₀, mu₀⟩ (KXl g c elt target iter ifs scope pos y xs Q)) :
    XW g c (.Assign [.Name y py] (.ListComp elt [⟨target, iter, ifs, 0⟩] scope pos) spos :: xs) ⟨l₀, cl₀, mu₀⟩ Q := by
  refine xw_cons (xw_comp hl hn hsc hfr hy hny (h.mono ?_))
  rintro d st₁ ⟨ds, l, cl, mu, lc, cc, rfl, rfl, hk, h⟩
  refine iw_list fun it hit => ⟨hit, _, .here, rfl, lc, cc, hk, fun acc hacc c' hs hc hx hx' => ?_⟩
  refine fun X s k => codeAny_mono (h it acc c' hs hc hx' X s k) fun r s' ⟨f, e, st', X', k', m', l₃, ds', mu', e', l', u, q⟩ => ⟨f, e, st', X', k', m', ?_⟩
  subst e'
  obtain ⟨l'', u', z⟩ := u.frz (acc := acc)
  exact ⟨rfl, l'', u', ko_next (xw_frz .here hacc z .refl q)⟩
/-! pure trees -/
theorem okDep_lst {ds : List D} {n : Nat} (hn : n + 1 ≤ 90) (h : ∀ d ∈ ds, pureD d = true ∧ dep d ≤ n) : okDep (.lst ds) := by
  have go : ∀ {ds : List D}, (∀ d ∈ ds, pureD d = true ∧ dep d ≤ n) → pureDs ds = true ∧ deps ds ≤ n := by
    intro ds
    induction ds with
    | nil => intro _; exact ⟨rfl, Nat.zero_le _⟩
    | cons d ds ih =>
      intro h
      obtain ⟨h1, h2⟩ := h d (.head _)
      obtain ⟨h3, h4⟩ := ih fun x hx => h x (.tail _ hx)
      exact ⟨by simp only [pureDs, h1, h3, Bool.and_self], by simp only [deps]; (first | lia | omega)⟩
  obtain ⟨h1, h2⟩ := go h
  exact ⟨h1, by simp only [dep]; (first | lia | omega)⟩
theorem stat_pure (fs : List Fw) (ps : List Int) (z : Z4) : pureD (statD fs ps z) = true ∧ dep (statD fs ps z) ≤ 3 := ⟨rfl, by simp [statD, dep, deps]⟩
noncomputable abbrev t3D (t : Int × Int × Int) : D := .tup [.int t.1, .int t.2.1, .int t.2.2]
theorem t3_pure (t : Int × Int × Int) : pureD (t3D t) = true ∧ dep (t3D t) ≤ 3 := ⟨rfl, by simp [dep, deps]⟩
theorem const_snoc {α : Type} {xs : List α} {S : D} : (xs.map fun _ => S) ++ [S] = List.replicate (xs.length + 1) S := by
  rw [List.map_const', List.replicate_succ']
theorem flat_one {n : Nat} {S : D} : (List.replicate n [S]).flatten = List.replicate n S := by
  induction n with
  | zero => rfl
  | succ n ih => rw [List.replicate_succ, List.flatten_cons, ih, List.replicate_succ]; rfl
end
section
/-- all the boxes: (a line?, the band) -/
noncomputable abbrev anyB (G : Gd) (x : Bool × Bd4) : D := if x.1 then rowB G x.2 else colB G x.2
noncomputable abbrev anyN (G : Gd) (x : Bool × Bd4) : Nd := if x.1 then rowN G x.2 else colN G x.2
theorem rep_same {g : Gl} {c : Ctx} {st : St} {n : Nat} {S : D} {Q : D → St → Prop} (hS : pureD S = true ∧ dep S ≤ 3) (q : Q (.bool false) st) : CmpQ g c .NotEq (.lst (List.replicate n S)) (.lst (List.replicate n S)) st Q :=
  cq_nsame (okDep_lst (n := 3) (by decide) fun d hd => by rw [List.eq_of_mem_replicate hd]; exact hS) rfl q
theorem any_box {G : Gd} (x : Bool × Bd4) : ∃ k sg od ra items, (anyN G x).D = boxD k x.2.W x.2.H x.2.E items sg od ra := by
  obtain ⟨b, x⟩ := x
  cases b
  · exact ⟨_, _, _, _, _, rfl⟩
  · exact ⟨_, _, _, _, _, rfl⟩
theorem it_rep0 {g : Gl} {c : Ctx} {st : St} {value slice : Expr} {m : Nat} {S : D} {Q : D → St → Prop} (hs : plainSlice slice = true) (hm : 0 < m) (q : Q S st) : ItQ g c value slice (.lst (List.replicate m S)) (.int 0) st Q :=
  it_litL (n := 0) hs rfl (by rw [List.getElem?_replicate, if_pos hm]) q
theorem it_stat5 {g : Gl} {c : Ctx} {st : St} {value slice : Expr} {fs : List Fw} {ps : List Int} {z : Z4} {Q : D → St → Prop} (hs : plainSlice slice = true) (q : Q (.bool true) st) : ItQ g c value slice (statD fs ps z) (.int 5) st Q :=
  it_litT (n := 5) hs rfl rfl q
noncomputable abbrev anyR (G : Gd) (x : Bool × Bd4) : List D := [(anyN G x).D, if x.1 then .lst ((posns G.fb G.br (zb G)).map D.int) else .lst ((posns G.fv (tv G) (zv G)).map D.int), if x.1 then statD G.fb G.br (zb G) else statD G.fv (tv G) (zv G)]
theorem any_tup {G : Gd} (x : Bool × Bd4) : anyB G x = .tup (anyR G x) := by
  obtain ⟨b, x⟩ := x
  cases b <;> rfl
theorem bq_rep1 {g : Gl} {c : Ctx} {st : St} {m : Nat} {S : D} {Q : D → St → Prop} (hm : m ≤ 1000) (q : Q (.lst (List.replicate m S)) st) : BinQ g c .Mult (.lst [S]) (.int ((List.replicate m S).length : Nat)) st Q := by
  rw [List.length_replicate]
  refine bq_mulL (by simp only [inI, Bool.and_eq_true, decide_eq_true_eq]; w_left) (by rw [Int.toNat_natCast, List.length_singleton]; w_left) (by simp) ?_
  rw [Int.toNat_natCast, flat_one]; exact q
theorem bq_two {g : Gl} {c : Ctx} {st : St} {S : D} {Q : D → St → Prop} (q : Q (.lst [S, S]) st) : BinQ g c .Mult (.lst [S]) (.int 2) st Q :=
  bq_mulL (by decide) (by simp) (by simp) q
local macro_rules | `(tactic| cell_step) => `(tactic| (first
  | (guard_target = XW _ _ (.Assign _ (.ListComp _ _ _ _) _ :: _) ..; with_reducible refine xw_lcomp rfl rfl (by kernel_rfl) (by kernel_rfl) (by dl_mem) (by kernel_rfl) ?_)
  | (guard_target = KUp ..; with_reducible refine ex_up (by dl_mem) ?_)
  | (guard_target = ItQ _ _ _ _ (.lst (List.replicate _ _)) ..; with_reducible refine it_rep0 rfl (by w_left) ?_)
  | (guard_target = ItQ _ _ _ _ (statD _ _ _) ..; with_reducible refine it_stat5 rfl ?_)
  | (guard_target = CallQ _ _ (.builtin "len") [.lst (List.replicate _ _)] ..; with_reducible refine cq_len (by rw [List.length_replicate]; w_left) ?_)
  | (guard_target = BinQ _ _ .Mult ..; first
    | with_reducible refine bq_rep1 (by w_left) ?_
    | with_reducible refine bq_two ?_)
  | (guard_target = CmpQ _ _ .NotEq (.lst (List.replicate _ _)) ..; with_reducible refine rep_same (stat_pure _ _ _) ?_)
  | (guard_target = KXl ..; refine ⟨_, _, _, _, _, _, rfl, rfl, (by cell_enter), (fun it acc c' hs' hc' hit => ?_)⟩)
  | fail "no step"))
theorem c_alike {g : Gl} {G : Gd} {w w' : List Nd} {xs xs' : List Bd4} {hid hid' : D} {spot : Int} {inner : D} {mu : List (Addr × Mu)} {Q : D → List (Addr × Mu) → Prop} (hG : G.ok) (hR : RowsX G xs) (hC : ColsX G xs') (q : Q (.bool true) mu) : CallW g 1 (.ref 646) [rowsM G w xs hid, colsM G w' xs' hid', G.D spot inner] mu Q := by
  refine callW_def (n := 0) (dds := []) (dvs := []) rfl (by kernel_rfl) (by kernel_rfl) (fun _ _ => rfl) ?_ ?_
  · intro X s vs b a
    obtain ⟨v0, r, rfl, a0, a⟩ := a
    obtain ⟨v1, r, rfl, a1, a⟩ := a
    obtain ⟨v2, r, rfl, a2, a⟩ := a
    obtain rfl : r = [] := a
    exact BindsTo.of_eq rfl
  · intro c hsc hcn
    apply Exists.intro
    apply Exists.intro
    apply And.intro
    · cb_eq
    have c1 := hG.c1
    have r1 := hG.r1
    have hRl := congrArg List.length hR
    have hCl := congrArg List.length hC
    rw [List.length_map, List.length_map] at hRl hCl
    refine xw_cons (xw_unpackC (x := Str.ofString "sizes") rfl (kind_of hsc (by kernel_rfl)) (.head _) ?_)
    repeat' cell_step
    rename_i it acc c' hs' hc' hit
    refine co_one (f := rowB G) (h := fun _ => statD G.fb G.br (zb G)) (r := fun x => [_, _, statD G.fb G.br (zb G)]) hit rfl rfl rfl (fun _ => rfl) (fun _ => rfl) xs (by w_left) (fun o => ?_)
    repeat' cell_step
    refine bq_addL (by rw [List.length_map, List.length_singleton]; w_left) ?_
    rw [const_snoc]
    repeat' cell_step
    rename_i it acc c' hs' hc' hit
    refine co_one (f := colB G) (h := fun _ => statD G.fv (tv G) (zv G)) (r := fun x => [_, _, statD G.fv (tv G) (zv G)]) hit rfl rfl rfl (fun _ => rfl) (fun _ => rfl) xs' (by w_left) (fun o => ?_)
    repeat' cell_step
    refine bq_addL (by rw [List.length_map, List.length_singleton]; w_left) ?_
    rw [const_snoc]
    generalize hm : xs.length + 1 = m
    generalize hm' : xs'.length + 1 = m'
    repeat' cell_step
    have hmp : 0 < m := by w_left
    have hmp' : 0 < m' := by w_left
    repeat' cell_step
    refine bq_addL (by simp only [List.length_map, List.length_cons, List.length_nil]; w_left) ?_
    repeat' cell_step
    refine bq_addL (by simp only [List.length_append, List.length_map, List.length_cons, List.length_nil]; w_left) ?_
    have ey : [colB G ⟨G.bd, G.ht, G.dp, w⟩, rowB G ⟨G.bd, G.ht, G.dp, w'⟩] ++ xs.map (rowB G) ++ xs'.map (colB G) = ([(false, ⟨G.bd, G.ht, G.dp, w⟩), (true, ⟨G.bd, G.ht, G.dp, w'⟩)] ++ xs.map (fun x => (true, x)) ++ xs'.map (fun x => (false, x)) : List (Bool × Bd4)).map (anyB G) := by
      rw [List.map_append, List.map_append, List.map_map, List.map_map]; rfl
    rw [ey]
    have et : ([(false, ⟨G.bd, G.ht, G.dp, w⟩), (true, ⟨G.bd, G.ht, G.dp, w'⟩)] ++ xs.map (fun x => (true, x)) ++ xs'.map (fun x => (false, x)) : List (Bool × Bd4)).map (fun x => t3D (szs x.2)) = [t3D (G.bd, G.ht, G.dp), t3D (G.bd, G.ht, G.dp)] ++ G.tl.map (fun p => t3D (G.bd, p.1, p.2)) ++ G.br.map (fun v => t3D (v, G.ht, G.dp)) := by
      have e1 := congrArg (List.map t3D) hR
      have e2 := congrArg (List.map t3D) hC
      rw [List.map_map, List.map_map] at e1 e2
      rw [List.map_append, List.map_append, List.map_map, List.map_map]
      have e1' : xs.map ((fun x : Bool × Bd4 => t3D (szs x.2)) ∘ fun x => (true, x)) = G.tl.map (fun p => t3D (G.bd, p.1, p.2)) := e1
      have e2' : xs'.map ((fun x : Bool × Bd4 => t3D (szs x.2)) ∘ fun x => (false, x)) = G.br.map (fun v => t3D (v, G.ht, G.dp)) := e2
      rw [e1', e2']; rfl
    have hyl : ([(false, ⟨G.bd, G.ht, G.dp, w⟩), (true, ⟨G.bd, G.ht, G.dp, w'⟩)] ++ xs.map (fun x => (true, x)) ++ xs'.map (fun x => (false, x)) : List (Bool × Bd4)).length ≤ 100 := by
      simp only [List.length_append, List.length_map, List.length_cons, List.length_nil]; w_left
    generalize ([(false, ⟨G.bd, G.ht, G.dp, w⟩), (true, ⟨G.bd, G.ht, G.dp, w'⟩)] ++ xs.map (fun x => (true, x)) ++ xs'.map (fun x => (false, x)) : List (Bool × Bd4)) = ys at et hyl
    repeat' cell_step
    rename_i it acc c' hs' hc' hit
    refine co_one (f := anyB G) (h := fun x => (anyN G x).D) (r := anyR G) (ix := 0) hit rfl rfl rfl any_tup (fun _ => rfl) ys (by w_left) (fun o => ?_)
    repeat' cell_step
    rename_i it acc c' hs' hc' hit
    refine co_map (f := prD) (h := fun p => t3D (G.bd, p.1, p.2)) hit rfl G.tl (by w_left) ?_ (fun o => ?_)
    · intro x es u Q' hq
      repeat' cell_step
      exact hq
    repeat' cell_step
    refine bq_addL (by simp only [List.length_map, List.length_cons, List.length_nil]; w_left) ?_
    repeat' cell_step
    rename_i it acc c' hs' hc' hit
    refine co_map (f := D.int) (h := fun v => t3D (v, G.ht, G.dp)) hit rfl G.br (by w_left) ?_ (fun o => ?_)
    · intro x es u Q' hq
      repeat' cell_step
      exact hq
    repeat' cell_step
    refine bq_addL (by simp only [List.length_append, List.length_map, List.length_cons, List.length_nil]; w_left) ?_
    repeat' cell_step
    rename_i it acc c' hs' hc' hit
    refine co_map (f := fun x => (anyN G x).D) (h := fun x => t3D (szs x.2)) hit rfl ys (by w_left) ?_ (fun o => ?_)
    · intro x es u Q' hq
      obtain ⟨k, sg, od, ra, items, e⟩ := any_box (G := G) x
      rw [e]
      repeat' cell_step
      rw [e] at hq
      exact hq
    repeat' cell_step
    rw [et]
    refine cq_same (okDep_lst (n := 3) (by decide) fun d hd => ?_) rfl ?_
    · rw [← et] at hd
      obtain ⟨x, _, rfl⟩ := List.mem_map.mp hd
      exact t3_pure _
    repeat' cell_step
    exact q
    
end
section
theorem cq_extendL {g : Gl} {c : Ctx} {Q : D → St → Prop} {a : Addr} {ds es : List D} {l cl mu mu'} (hm : MLk a (.lst ds) mu) (hz : ds.length + es.length ≤ 2 ^ 24) (up : MUp a (.lst (ds ++ es)) mu mu') (q : Q .none ⟨l, cl, mu'⟩) : CallQ g c (.builtin "list.extend") [.mlst a, .lst es] ⟨l, cl, mu⟩ Q := fun X s vs k av => by
  obtain ⟨v, r, rfl, a1, v₂, r₂, rfl, a2, a3⟩ := av
  obtain rfl : r₂ = [] := a3
  obtain rfl : v = .ref a := a1
  obtain ⟨b, us, rfl, nb, ⟨n2, hl2⟩, ha2⟩ := a2
  obtain ⟨vs, ⟨n, hl⟩, ha⟩ := k.mu _ hm.mem
  have e1 := ha.length
  have e2 := ha2.length
  have hl' : s.heap.PlainList a vs.toArray := ⟨n, hl⟩
  refine call_meets PySem.F.slot_list_extend ⟨_, hl, rfl⟩ PySem.F.entry_list_extend (PySem.F.args_list_extend_2 _ _) (PySem.AutoSeq1.list_extend_list_list_0 a vs.toArray n b us.toArray n2 ?_ ?_ ?_) ⟨hl, hl2, ?_⟩
  · unfold Builtin.List.listTooLong
    simp only [List.size_toArray, Bool.and_eq_true, decide_eq_true_eq, not_and, sizeLine_eq]
    (first | lia | omega)
  · rw [List.size_toArray, sizeLine_eq]; (first | lia | omega)
  · rw [List.size_toArray, List.size_toArray, sizeLine_eq]; (first | lia | omega)
  · have hsb : Heap.SameBut a s.heap (s.heap.update a (Obj.mapSeq fun x => x ++ us.toArray)) := Heap.SameBut.update ..
    obtain ⟨k', M⟩ := k.upd (h' := s.heap.update a (Obj.mapSeq fun x => x ++ us.toArray)) (tk := s.toks) up (fun b o n e => hsb.extBut b o n e) fun M => by
      refine ⟨vs ++ us, ?_, (ha.mv M).append (ha2.mv M)⟩
      have q := PySem.IsL.update hl (fun x => x ++ us.toArray)
      exact ⟨_, by simpa using q⟩
    exact ⟨.none, _, X, k', M, rfl, q⟩
/-- the place of the cell k, its box's corner at x, y -/
noncomputable def pk (G : Gd) (x y : Int) (k : Nat) : Int × Int := (x + (posns G.fb G.br (zb G)).getD (k % G.br.length) 0, y - G.ht + (posns G.fv (tv G) (zv G)).getD (k / G.br.length) 0 + (G.tl.getD (k / G.br.length) (0, 0)).1)
noncomputable def sp1 (G : Gd) (spot : Int) (sub : Int → Int → List (Int × Int)) (x y : Int) (k : Nat) : List (Int × Int) := pk G x y k :: (if (k : Int) = spot then sub (pk G x y k).1 (pk G x y k).2 else [])
noncomputable def spotsL (G : Gd) (spot : Int) (sub : Int → Int → List (Int × Int)) (x y : Int) : List (Int × Int) := (List.range (G.br.length * G.tl.length)).flatMap (sp1 G spot sub x y)
theorem pos_len {fs : List Fw} {ps : List Int} {z : Z4} : (posns fs ps z).length = ps.length := by unfold posns; rw [List.length_map, List.length_range]
theorem get_int {l : List Int} {i : Nat} (h : i < l.length) : (l.map D.int)[i]? = some (.int (l.getD i 0)) := by
  rw [List.getElem?_map, List.getElem?_eq_getElem h, List.getD_eq_getElem?_getD, List.getElem?_eq_getElem h]; rfl
theorem get_pr {l : List (Int × Int)} {i : Nat} (h : i < l.length) : (l.map prD)[i]? = some (prD (l.getD i (0, 0))) := by
  rw [List.getElem?_map, List.getElem?_eq_getElem h, List.getD_eq_getElem?_getD, List.getElem?_eq_getElem h]; rfl
theorem rows_at {G : Gd} {xs : List Bd4} (h : RowsX G xs) {i : Nat} (hi : i < G.tl.length) : ∃ its, (xs.map (rowB G))[i]? = some (rowB G ⟨G.bd, (G.tl.getD i (0, 0)).1, (G.tl.getD i (0, 0)).2, its⟩) := by
  have e := congrArg (·[i]?) h
  simp only [List.getElem?_map, List.getElem?_eq_getElem hi, Option.map_some] at e
  obtain ⟨x, hx, ex⟩ := Option.map_eq_some_iff.mp e
  obtain ⟨W, H, E, its⟩ := x
  simp only [szs, Prod.mk.injEq] at ex
  obtain ⟨rfl, rfl, rfl⟩ := ex
  refine ⟨its, ?_⟩
  rw [List.getElem?_map, hx, List.getD_eq_getElem?_getD, List.getElem?_eq_getElem hi]; rfl
theorem cols_at {G : Gd} {xs : List Bd4} (h : ColsX G xs) {j : Nat} (hj : j < G.br.length) : ∃ its, (xs.map (colB G))[j]? = some (colB G ⟨G.br.getD j 0, G.ht, G.dp, its⟩) := by
  have e := congrArg (·[j]?) h
  simp only [List.getElem?_map, List.getElem?_eq_getElem hj, Option.map_some] at e
  obtain ⟨x, hx, ex⟩ := Option.map_eq_some_iff.mp e
  obtain ⟨W, H, E, its⟩ := x
  simp only [szs, Prod.mk.injEq] at ex
  obtain ⟨rfl, rfl, rfl⟩ := ex
  refine ⟨its, ?_⟩
  rw [List.getElem?_map, hx, List.getD_eq_getElem?_getD, List.getElem?_eq_getElem hj]; rfl
theorem pr_snoc {l : List (Int × Int)} {p : Int × Int} : l.map prD ++ [prD p] = (l ++ [p]).map prD := by rw [List.map_append]; rfl
structure Sp where
  f : List (Int × Int)
  k : Option D
  i : Option D
  j : Option D
  s : Option D
structure SpI (G : Gd) (spot : Int) (sub : Int → Int → List (Int × Int)) (x y : Int) (i : Nat) (z : Sp) : Prop where
  f : z.f = (List.range i).flatMap (sp1 G spot sub x y)
  len : z.f.length ≤ 1000 * i
theorem SpI.step {G : Gd} {spot : Int} {sub : Int → Int → List (Int × Int)} {x y : Int} {i : Nat} {z : Sp} (h : SpI G spot sub x y i z) (hs : (sp1 G spot sub x y i).length ≤ 1000) {k i' j s : Option D} : SpI G spot sub x y (i + 1) ⟨z.f ++ sp1 G spot sub x y i, k, i', j, s⟩ :=
  ⟨by rw [List.range_succ, List.flatMap_append, h.f]; simp, by have := h.len; simp only [List.length_append]; (first | lia | omega)⟩
end
section
noncomputable abbrev spotL (G : Gd) (spot : Int) (inner made wh bs hid : D) (byc within : Bool) (x y : Int) (tall columns found k i j sp : Option D) : List (Str × Option D) :=
  [(Str.ofString "made", some made), (Str.ofString "grid", some (G.D spot inner)), (Str.ofString "by_columns", some (D.bool byc)), (Str.ofString "within", some (D.bool within)), (Str.ofString "x", some (D.int x)), (Str.ofString "y", some (D.int y)), (Str.ofString "whole", some wh), (Str.ofString "bands", some bs), (Str.ofString "hidden", some hid),
   (Str.ofString "tall", tall), (Str.ofString "columns", columns), (Str.ofString "found", found), (Str.ofString "k", k), (Str.ofString "i", i), (Str.ofString "j", j), (Str.ofString "spot", sp)]
local macro_rules | `(tactic| cell_step) => `(tactic| (first
  | (guard_target = XW1 _ _ (.Return _ _) ..; with_reducible refine xw_retz ?_)
  | (guard_target = EW _ _ (.List [] _) ..; (with_reducible refine ew_mnil ?_))
  | (guard_target = MeQ _ _ _ (Str.ofString "extend") ..; with_reducible refine me_list PySem.F.slot_list_extend rfl (by dl_mem) ?_)
  | fail "no step"))
theorem c_spots {g : Gl} {n : Nat} {G : Gd} {spot : Int} {inner made hid : D} {byc within : Bool} {x y : Int} {sub : Int → Int → List (Int × Int)} {mu : List (Addr × Mu)} {Q : D → List (Addr × Mu) → Prop} (hG : G.ok) (hM : MadeP G byc hid made) (hsub : ∀ x y, (sub x y).length ≤ 900) (hrec : 0 ≤ spot → ∀ (x y : Int) (Q : D → List (Addr × Mu) → Prop), Q (.lst ((sub x y).map prD)) [] → CallW g n (.ref 653) [hid, inner, .bool within, .bool false, .int x, .int y] [] Q) (q : Q (.lst ((spotsL G spot sub x y).map prD)) mu) : CallW g (n+1) (.ref 653) [made, G.D spot inner, .bool byc, .bool within, .int x, .int y] mu Q := by
  refine callW_def (n := n) (dds := []) (dvs := []) rfl (by kernel_rfl) (by kernel_rfl) (fun _ _ => rfl) ?_ ?_
  · intro X s vs b a
    obtain ⟨v0, r, rfl, a0, a⟩ := a
    obtain ⟨v1, r, rfl, a1, a⟩ := a
    obtain ⟨v2, r, rfl, a2, a⟩ := a
    obtain ⟨v3, r, rfl, a3, a⟩ := a
    obtain ⟨v4, r, rfl, a4, a⟩ := a
    obtain ⟨v5, r, rfl, a5, a⟩ := a
    obtain rfl : r = [] := a
    exact BindsTo.of_eq rfl
  · intro c hsc hcn
    apply Exists.intro
    apply Exists.intro
    apply And.intro
    · cb_eq
    have c1 := hG.c1
    have r1 := hG.r1
    have hcr : G.br.length * G.tl.length ≤ 4 * 3 := Nat.mul_le_mul (by w_left) (by w_left)
    have hcri : ((G.br.length * G.tl.length : Nat) : Int) = (G.br.length : Int) * G.tl.length := Int.natCast_mul _ _
    have hs1 : ∀ k, (sp1 G spot sub x y k).length ≤ 1000 := fun k => by
      unfold sp1
      have := hsub (pk G x y k).1 (pk G x y k).2
      rw [List.length_cons]
      split
      · w_left
      · simp
    have lb : (posns G.fb G.br (zb G)).length = G.br.length := pos_len
    have lv : (posns G.fv (tv G) (zv G)).length = G.tl.length := by rw [pos_len]; unfold tv; rw [List.length_map]
    cases byc
    · obtain ⟨w, xs, hR, rfl⟩ := hM
      repeat' cell_step
      refine cq_len (by rw [List.length_map]; w_left) ?_
      rw [List.length_map]
      repeat' cell_step
      intro fa hfa
      repeat' cell_step
      refine cq_len (by rw [List.length_map]; w_left) ?_
      rw [List.length_map]
      repeat' cell_step
      rw [← hcri]
      refine cq_range1 ?_
      refine iw_rng (small1 (by w_left)) (fun it hit => ?_)
      rw [size1]
      refine for_rng (σ := Sp) (fun z => ⟨spotL G spot inner (rowsM G w xs hid) (colB G ⟨G.bd, G.ht, G.dp, w⟩) (.lst (xs.map (rowB G))) hid false within x y (some (.lst (G.tl.map prD))) (some (.int G.br.length)) (some (.mlst fa)) z.k z.i z.j z.s, [], (fa, .lst (z.f.map prD)) :: mu⟩) (SpI G spot sub x y) rfl hit (G.br.length * G.tl.length) ?_ ?_ ⟨[], none, none, none, none⟩ ⟨rfl, by simp⟩
      · rintro k z u hk hI ih
        dsimp only
        have em : (k : Int).fmod G.br.length = (k % G.br.length : Nat) := by rw [Int.fmod_eq_emod_of_nonneg _ (by w_left), ← Int.natCast_emod]
        have ed : (k : Int).fdiv G.br.length = (k / G.br.length : Nat) := by rw [Int.fdiv_eq_ediv_of_nonneg _ (by w_left), ← Int.natCast_ediv]
        have hml : k % G.br.length < G.br.length := Nat.mod_lt _ (by w_left)
        have hdl : k / G.br.length < G.tl.length := Nat.div_lt_of_lt_mul hk
        have hlen := hI.len
        have hq0 : (0 : Int) ≤ ((k / G.br.length : Nat) : Int) := Int.natCast_nonneg _
        have hq1 : (0 : Int) ≤ ((k % G.br.length : Nat) : Int) := Int.natCast_nonneg _
        have hstp := fun kk ii jj ss => ih _ (hI.step (hs1 k) (k := kk) (i' := ii) (j := jj) (s := ss))
        obtain ⟨its, hx⟩ := rows_at hR hdl
        have hxl' := congrArg List.length hR
        rw [List.length_map, List.length_map, ← List.length_map (f := rowB G)] at hxl'
        have hxl : ((k / G.br.length : Nat) : Int) < ((xs.map (rowB G)).length : Nat) := by w_left
        repeat' ((fail_if_success (with_reducible show XW _ _ (.If _ _ _ _ :: _) _ _)); cell_step)
        rw [em, ed]
        repeat' cell_step
        refine it_idx (d := rowB G _) rfl (by w_left) hxl (by rw [hxl']; w_left) (by rw [Int.toNat_natCast]; exact hx) ?_
        repeat' cell_step
        refine it_idx (d := .int ((posns G.fb G.br (zb G)).getD (k % G.br.length) 0)) rfl (by w_left) (by rw [List.length_map]; w_left) (by rw [List.length_map]; w_left) (by rw [Int.toNat_natCast]; exact get_int (by w_left)) ?_
        repeat' cell_step
        refine it_idx (d := .int ((posns G.fv (tv G) (zv G)).getD (k / G.br.length) 0)) rfl (by w_left) (by rw [List.length_map]; w_left) (by rw [List.length_map]; w_left) (by rw [Int.toNat_natCast]; exact get_int (by w_left)) ?_
        repeat' cell_step
        refine it_idx (d := rowB G _) rfl (by w_left) hxl (by rw [hxl']; w_left) (by rw [Int.toNat_natCast]; exact hx) ?_
        repeat' cell_step
        refine cq_append (d := prD (pk G x y k)) (.there .here) (by rw [List.length_map]; w_left) (.there .here) ?_
        rw [pr_snoc]
        repeat' cell_step
        · rename_i hks
          refine cq_pure (d := .lst ((sub (pk G x y k).1 (pk G x y k).2).map prD)) (fun q => hrec (by w_left) _ _ _ q) (by w_left) ?_
          have hsl := hsub (pk G x y k).1 (pk G x y k).2
          repeat' cell_step
          refine cq_extendL (.there .here) (by rw [List.length_map, List.length_map, List.length_append, List.length_singleton]; w_left) (.there .here) ?_
          rw [← List.map_append, List.append_assoc]
          repeat' cell_step
          have e : [pk G x y k] ++ sub (pk G x y k).1 (pk G x y k).2 = sp1 G spot sub x y k := by unfold sp1; rw [if_pos hks]; rfl
          rw [e]
          exact hstp _ _ _ _
        · rename_i hks
          have e : [pk G x y k] = sp1 G spot sub x y k := by unfold sp1; rw [if_neg hks]
          rw [e]
          exact hstp _ _ _ _
      · rintro z hI
        refine ko_next ?_
        repeat' cell_step
        refine ⟨_, _, _, _, .here, hfa, .one (.lst rfl), ?_⟩
        repeat' cell_step
        rw [hI.f]
        exact q
    · obtain ⟨w, xs, hR, rfl⟩ := hM
      repeat' cell_step
      refine cq_len (by rw [List.length_map]; w_left) ?_
      rw [List.length_map]
      repeat' cell_step
      intro fa hfa
      repeat' cell_step
      refine cq_len (by rw [List.length_map]; w_left) ?_
      rw [List.length_map]
      repeat' cell_step
      rw [← hcri]
      refine cq_range1 ?_
      refine iw_rng (small1 (by w_left)) (fun it hit => ?_)
      rw [size1]
      refine for_rng (σ := Sp) (fun z => ⟨spotL G spot inner (colsM G w xs hid) (rowB G ⟨G.bd, G.ht, G.dp, w⟩) (.lst (xs.map (colB G))) hid true within x y (some (.lst (G.tl.map prD))) (some (.int G.br.length)) (some (.mlst fa)) z.k z.i z.j z.s, [], (fa, .lst (z.f.map prD)) :: mu⟩) (SpI G spot sub x y) rfl hit (G.br.length * G.tl.length) ?_ ?_ ⟨[], none, none, none, none⟩ ⟨rfl, by simp⟩
      · rintro k z u hk hI ih
        dsimp only
        have em : (k : Int).fmod G.br.length = (k % G.br.length : Nat) := by rw [Int.fmod_eq_emod_of_nonneg _ (by w_left), ← Int.natCast_emod]
        have ed : (k : Int).fdiv G.br.length = (k / G.br.length : Nat) := by rw [Int.fdiv_eq_ediv_of_nonneg _ (by w_left), ← Int.natCast_ediv]
        have hml : k % G.br.length < G.br.length := Nat.mod_lt _ (by w_left)
        have hdl : k / G.br.length < G.tl.length := Nat.div_lt_of_lt_mul hk
        have hlen := hI.len
        have hq0 : (0 : Int) ≤ ((k / G.br.length : Nat) : Int) := Int.natCast_nonneg _
        have hq1 : (0 : Int) ≤ ((k % G.br.length : Nat) : Int) := Int.natCast_nonneg _
        have hstp := fun kk ii jj ss => ih _ (hI.step (hs1 k) (k := kk) (i' := ii) (j := jj) (s := ss))
        obtain ⟨its, hx⟩ := cols_at hR hml
        have hxl' := congrArg List.length hR
        rw [List.length_map, List.length_map, ← List.length_map (f := colB G)] at hxl'
        have hxl : ((k % G.br.length : Nat) : Int) < ((xs.map (colB G)).length : Nat) := by w_left
        repeat' ((fail_if_success (with_reducible show XW _ _ (.If _ _ _ _ :: _) _ _)); cell_step)
        rw [em, ed]
        repeat' cell_step
        refine it_idx (d := .int ((posns G.fb G.br (zb G)).getD (k % G.br.length) 0)) rfl (by w_left) (by rw [List.length_map]; w_left) (by rw [List.length_map]; w_left) (by rw [Int.toNat_natCast]; exact get_int (by w_left)) ?_
        repeat' cell_step
        refine it_idx (d := colB G _) rfl (by w_left) hxl (by rw [hxl']; w_left) (by rw [Int.toNat_natCast]; exact hx) ?_
        repeat' cell_step
        refine it_idx (d := colB G _) rfl (by w_left) hxl (by rw [hxl']; w_left) (by rw [Int.toNat_natCast]; exact hx) ?_
        repeat' cell_step
        refine it_idx (d := .int ((posns G.fv (tv G) (zv G)).getD (k / G.br.length) 0)) rfl (by w_left) (by rw [List.length_map]; w_left) (by rw [List.length_map]; w_left) (by rw [Int.toNat_natCast]; exact get_int (by w_left)) ?_
        repeat' cell_step
        refine it_idx (d := prD (G.tl.getD (k / G.br.length) (0, 0))) rfl (by w_left) (by rw [List.length_map]; w_left) (by rw [List.length_map]; w_left) (by rw [Int.toNat_natCast]; exact get_pr (by w_left)) ?_
        repeat' cell_step
        refine cq_append (d := prD (pk G x y k)) (.there .here) (by rw [List.length_map]; w_left) (.there .here) ?_
        rw [pr_snoc]
        repeat' cell_step
        · rename_i hks
          refine cq_pure (d := .lst ((sub (pk G x y k).1 (pk G x y k).2).map prD)) (fun q => hrec (by w_left) _ _ _ q) (by w_left) ?_
          have hsl := hsub (pk G x y k).1 (pk G x y k).2
          repeat' cell_step
          refine cq_extendL (.there .here) (by rw [List.length_map, List.length_map, List.length_append, List.length_singleton]; w_left) (.there .here) ?_
          rw [← List.map_append, List.append_assoc]
          repeat' cell_step
          have e : [pk G x y k] ++ sub (pk G x y k).1 (pk G x y k).2 = sp1 G spot sub x y k := by unfold sp1; rw [if_pos hks]; rfl
          rw [e]
          exact hstp _ _ _ _
        · rename_i hks
          have e : [pk G x y k] = sp1 G spot sub x y k := by unfold sp1; rw [if_neg hks]
          rw [e]
          exact hstp _ _ _ _
      · rintro z hI
        refine ko_next ?_
        repeat' cell_step
        refine ⟨_, _, _, _, .here, hfa, .one (.lst rfl), ?_⟩
        repeat' cell_step
        rw [hI.f]
        exact q
    
end
section
theorem fw_inj : ∀ {a b : Fw}, a.D = b.D → a = b
  | .none, .none, _ => rfl
  | .none, .some .., h => by simp at h
  | .some .., .none, h => by simp at h
  | .some .., .some .., h => by simp at h; simp [h]
theorem map_inj {α : Type} {f : α → D} (hf : ∀ a b, f a = f b → a = b) : ∀ {l l' : List α}, l.map f = l'.map f → l = l'
  | [], [], _ => rfl
  | [], _ :: _, h => by simp at h
  | _ :: _, [], h => by simp at h
  | a :: l, b :: l', h => by
    simp only [List.map_cons, List.cons.injEq] at h
    rw [hf _ _ h.1, map_inj hf h.2]
theorem gd_inj {G H : Gd} {s : Int} {i : D} (h : G.D s i = H.D s i) : G = H := by
  obtain ⟨fb, fv, br, tl, ks, ob, bd, oh, ht, dp, mo⟩ := G
  obtain ⟨fb', fv', br', tl', ks', ob', bd', oh', ht', dp', mo'⟩ := H
  simp only [Gd.D, D.tup.injEq, D.lst.injEq, D.int.injEq, List.cons.injEq, and_true, true_and] at h
  obtain ⟨h1, h2, h3, h4, h5, h6, h7, h8, h9, h10, h11⟩ := h
  have e1 := map_inj (fun _ _ => fw_inj) h1
  have e2 := map_inj (fun _ _ => fw_inj) h2
  have e3 := map_inj (fun a b h => by simpa using h) h3
  have e4 := map_inj (fun a b h => by
    obtain ⟨a1, a2⟩ := a
    obtain ⟨b1, b2⟩ := b
    simpa using h) h4
  have e5 := map_inj (fun a b h => by simpa using h) h5
  subst e1 e2 e3 e4 e5 h6 h7 h8 h9 h10 h11
  rfl
theorem sub_len {G : Gd} (hG : G.ok) (x y : Int) : (spotsL G (-1) (fun _ _ => []) x y).length ≤ 900 := by
  have hcr : G.br.length * G.tl.length ≤ 4 * 3 := Nat.mul_le_mul hG.c1.2 hG.r1.2
  have go : ∀ n : Nat, ((List.range n).flatMap (sp1 G (-1) (fun _ _ => []) x y)).length ≤ n := by
    intro n
    induction n with
    | zero => simp
    | succ n ih =>
      rw [List.range_succ, List.flatMap_append, List.length_append]
      have : ((([n] : List Nat)).flatMap (sp1 G (-1) (fun _ _ => []) x y)).length = 1 := by
        simp only [List.flatMap_cons, List.flatMap_nil, List.append_nil, sp1]
        rw [if_neg (by w_left)]; rfl
      w_left
  exact Nat.le_trans (go _) (by w_left)
theorem c_spots1 {g : Gl} {G : Gd} {made : D} {byc : Bool} {x y : Int} (hG : G.ok) (hM : MadeP G byc (.tup []) made) {w : Bool} {Q : D → List (Addr × Mu) → Prop} {mu : List (Addr × Mu)} (q : Q (.lst ((spotsL G (-1) (fun _ _ => []) x y).map prD)) mu) :
    CallW g 1 (.ref 653) [made, G.D (-1) (.tup []), .bool byc, .bool w, .int x, .int y] mu Q :=
  c_spots (n := 0) (sub := fun _ _ => []) hG hM (by simp) (fun h => absurd h (by decide)) q
theorem bq_p18 {g : Gl} {c : Ctx} {st : St} {Q : D → St → Prop} (q : Q (.int (10 ^ 18)) st) : BinQ g c .Pow (.int 10) (.int 18) st Q := bq_pow (by decide) (by decide) q
section
local macro_rules | `(tactic| cell_step) => `(tactic| (first
  | (guard_target = BinQ _ _ .Pow ..; with_reducible refine bq_p18 ?_)
  | (guard_target = EW _ _ (.List _ _) ..; (with_reducible refine ew_mlst rfl ?_))
  | fail "no step"))
theorem c_lawbox {g : Gl} {x y : Int} {Q : D → List (Addr × Mu) → Prop}  (q : ∀ bx a b, Nn a → Nn b → Q (.mlst bx) (bxM bx a b)) : CallW g 1 (.ref 588) [.int x, .int y] [] Q := by
  refine callW_def (n := 0) (dds := []) (dvs := []) rfl (by kernel_rfl) (by kernel_rfl) (fun _ _ => rfl) ?_ ?_
  · intro X s vs b a
    obtain ⟨v0, r, rfl, a0, a⟩ := a
    obtain ⟨v1, r, rfl, a1, a⟩ := a
    obtain rfl : r = [] := a
    exact BindsTo.of_eq rfl
  · intro c hsc hcn
    apply Exists.intro
    apply Exists.intro
    apply And.intro
    · cb_eq
    repeat' cell_step
    refine cq_intBool ?_
    repeat' cell_step
    intro bx hbx
    repeat' cell_step
    have h1 := fm (a := 2 * (if x < 0 then -x else x) + (if decide (x < 0) = true then 1 else 0) + (if y < 0 then -y else y)) (m := 2147483629) (by w_left)
    exact q _ _ _ (by unfold Nn; split <;> w_left) (by unfold Nn; w_left)
    end
    theorem ew_from1 {g : Gl} {c : Ctx} {st : St} {Q : D → St → Prop} {value : Expr} {n : Nat} {p p' pos : Pos} (hv : isName value = true) (h : EW g c value st (KFrom 1 Q)) : EW g c (.Subscript value (.Slice (some (.Constant (.int 1) n p)) none none p') pos) st Q := ew_from (a := 1) hv h
    theorem cq_ne_nil {g : Gl} {c : Ctx} {st : St} {Q : D → St → Prop} (q : Q (.bool false) st) : CmpQ g c .NotEq (.lst []) (.lst []) st Q := cq_nsame (d := .lst []) ⟨rfl, by decide⟩ rfl q
    local macro_rules | `(tactic| cell_step) => `(tactic| (first
      | (guard_target = BinQ _ _ .Pow ..; with_reducible refine bq_p18 ?_)
      | (guard_target = EW _ _ (.Subscript _ (.Slice _ _ _ _) _) ..; (with_reducible refine ew_from1 rfl ?_))
      | fail "no step"))

theorem c_law {g : Gl} {ns : List Int} {Q : D → List (Addr × Mu) → Prop} (hz : ns.length ≤ 2 ^ 24) (q : Q (.bool true) []) : CallW g 10 (.ref 660) [.lst (ns.map D.int)] [] Q := by
  refine CallW.drop ?_
  refine callW_def (n := 9) (dds := []) (dvs := []) rfl (by kernel_rfl) (by kernel_rfl) (fun _ _ => rfl) ?_ ?_
  · intro X s vs b a
    obtain ⟨v0, r, rfl, a0, a⟩ := a
    obtain rfl : r = [] := a
    exact BindsTo.of_eq rfl
  · intro c hsc hcn
    apply Exists.intro
    apply Exists.intro
    apply And.intro
    · cb_eq
    refine xw_cons (xw_assign rfl ?_)
    refine ew_call rfl ?_
    cell_step
    cell_step
    refine lw_cons rfl ?_
    refine TW.mono (Q := fun d st' => ∃ v, d = .int v ∧ st' = ⟨[(Str.ofString "script", some (D.lst (List.map D.int ns))), (Str.ofString "box", none), (Str.ofString "grid", none), (Str.ofString "within", none), (Str.ofString "by_rows", none), (Str.ofString "by_columns", none), (Str.ofString "pair", none)], [], []⟩) ?_ ?_
    · cases ns with
      | nil =>
        simp only [List.map_nil]
        repeat' cell_step
        refine cq_ne_nil ?_
        repeat' cell_step
        exact ⟨_, rfl, rfl⟩
      | cons n ns =>
        simp only [List.map_cons]
        repeat' cell_step
        refine cq_ne_lst0 (List.cons_ne_nil _ _) ?_
        repeat' cell_step
        exact ⟨_, rfl, rfl⟩
    rintro d st' ⟨v, rfl, rfl⟩
    repeat' cell_step
    refine ⟨_, rfl, by rw [List.length_map]; exact hz, ?_⟩
    rw [← List.map_drop]
    repeat' cell_step
    refine cq_sum (by rw [List.length_drop]; w_left) ?_
    repeat' cell_step
    refine cq_call .none (by w_left) (c_lawbox (fun bx a b ha hb _ => ?_))
    simp only [List.append_nil]
    repeat' cell_step
    refine cq_box w_grid0 .here (by w_left) ha hb (fun d a1 b1 hd ha1 hb1 => ?_)
    obtain ⟨G, spot, inner, hG, rfl, _, hin⟩ := hd
    have hin := hin rfl
    repeat' ((fail_if_success (with_reducible show XW _ _ _ _ _)); cell_step)
    rename_i iw a2 b2 hw0 hw1 ha2 hb2
    generalize decide (iw = 1) = within
    refine xw_cons ?_
    repeat' cell_step
    refine cq_box (w_made0 hG hin) .here (by w_left) ha2 hb2 (fun d a3 b3 hd ha3 hb3 => ?_)
    obtain ⟨hid, hh, w, xs, hR, rfl⟩ := hd
    repeat' cell_step
    refine cq_box (w_made0 hG hin) .here (by w_left) ha3 hb3 (fun d a4 b4 hd ha4 hb4 => ?_)
    obtain ⟨hid', hh', w', xs', hC, rfl⟩ := hd
    repeat' cell_step
    refine cq_pure (c_alike hG hR hC) (by w_left) ?_
    repeat' ((fail_if_success (with_reducible show XW _ _ (.If _ _ _ _ :: _) _ _)); cell_step)
    have hboth : 0 ≤ spot → ∃ G1 : Gd, G1.ok ∧ inner = G1.D (-1) (.tup []) ∧ MadeP G1 within (.tup []) hid ∧ MadeP G1 (!within) (.tup []) hid' := fun h => by
      rcases hh with ⟨e, _⟩ | ⟨_, G1, ok1, e1, m1⟩
      · w_left
      rcases hh' with ⟨e, _⟩ | ⟨_, G2, ok2, e2, m2⟩
      · w_left
      obtain rfl := gd_inj (e1.symm.trans e2)
      exact ⟨G1, ok1, e1, m1, m2⟩
    refine xw_meet (fun st => ∃ pr, st = ⟨[(Str.ofString "script", some (D.lst (List.map D.int ns))), (Str.ofString "box", some (.mlst bx)), (Str.ofString "grid", some (G.D spot inner)), (Str.ofString "within", some (.bool within)), (Str.ofString "by_rows", some (rowsM G w xs hid)), (Str.ofString "by_columns", some (colsM G w' xs' hid')), (Str.ofString "pair", pr)], [], bxM bx a4 b4⟩) ?_ ?_
    · repeat' cell_step
      · rename_i hsp
        obtain ⟨G1, ok1, rfl, m1, m2⟩ := hboth hsp
        cases within
        · obtain ⟨w1, xs1, hR1, rfl⟩ := m1
          obtain ⟨w2, xs2, hC2, rfl⟩ := m2
          repeat' cell_step
          refine cq_pure (c_alike ok1 hR1 hC2) (by w_left) ?_
          repeat' cell_step
          exact ⟨_, rfl⟩
        · obtain ⟨w1, xs1, hC1, rfl⟩ := m1
          obtain ⟨w2, xs2, hR2, rfl⟩ := m2
          repeat' cell_step
          refine cq_pure (c_alike ok1 hR2 hC1) (by w_left) ?_
          repeat' cell_step
          exact ⟨_, rfl⟩
      · exact ⟨_, rfl⟩
    rintro st ⟨pr, rfl⟩
    obtain ⟨sub, hsub, hrow, hcol⟩ : ∃ sub : Int → Int → List (Int × Int), (∀ x y, (sub x y).length ≤ 900) ∧
        (0 ≤ spot → ∀ (x y : Int) (Q : D → List (Addr × Mu) → Prop), Q (.lst ((sub x y).map prD)) [] → CallW g 1 (.ref 653) [hid, inner, .bool within, .bool false, .int x, .int y] [] Q) ∧
        (0 ≤ spot → ∀ (x y : Int) (Q : D → List (Addr × Mu) → Prop), Q (.lst ((sub x y).map prD)) [] → CallW g 1 (.ref 653) [hid', inner, .bool (!within), .bool false, .int x, .int y] [] Q) := by
      by_cases hsp : 0 ≤ spot
      · obtain ⟨G1, ok1, rfl, m1, m2⟩ := hboth hsp
        exact ⟨spotsL G1 (-1) (fun _ _ => []), sub_len ok1, fun _ x y Q q => c_spots1 ok1 m1 q, fun _ x y Q q => c_spots1 ok1 m2 q⟩
      · exact ⟨fun _ _ => [], by simp, fun h => absurd h hsp, fun h => absurd h hsp⟩
    repeat' cell_step
    refine cq_pure (d := .lst ((spotsL G spot sub 0 0).map prD)) (fun q => c_spots (n := 1) hG ⟨w, xs, hR, rfl⟩ hsub hrow q) (by w_left) ?_
    repeat' cell_step
    refine cq_pure (d := .lst ((spotsL G spot sub 0 0).map prD)) (fun q => c_spots (n := 1) hG ⟨w', xs', hC, rfl⟩ hsub hcol q) (by w_left) ?_
    repeat' cell_step
    refine cq_same (okDep_lst (n := 3) (by decide) fun d hd => ?_) rfl ?_
    · obtain ⟨p, _, rfl⟩ := List.mem_map.mp hd
      exact ⟨rfl, by simp [dep, deps]⟩
    repeat' cell_step
    exact ⟨[], List.nil_sublist _, q⟩
    
end
end Mine
open PySem PySem.W PySem.Calls PyProof.Rows
set_option maxRecDepth 100000
set_option Elab.async false
set_option maxHeartbeats 4000000
set_option linter.unusedVariables false
namespace Mine
theorem ats_of {X : Addr → Prop} {h : Heap} {vs : List Value} {ns : List Int} (k : IntsAre vs ns) : Ats X h (ns.map D.int) vs := by
  induction k with
  | nil => exact rfl
  | cons n t _ ih => exact ⟨_, _, rfl, ⟨t, rfl⟩, ih⟩
theorem room0 : Room 10 callerA := ⟨rfl, by decide, by decide⟩
theorem law_at {K : Frag} {mg : Str → Option Value} {h : Heap} (X : K.In h) (G : h.Ns mainGlobals mg) (e : nsIn K mainGlobals (Str.ofString "law") = some (some (.ref 660))) {fa : Addr} (hm : mg (Str.ofString "law") = some (.ref fa)) : fa = 660 := by
  rw [mg_of X G e] at hm
  cases hm; rfl
theorem walk_of {w : World} {s₁ : Shared} {mg mb : Str → Option Value} (KX : (K w.params).In s₁.heap) (T : TopRead view1 (looseW view1 loose1) mg mb s₁.heap) (hg : s₁.gens = #[]) {fa l : Addr} (hm : mg (Str.ofString "law") = some (.ref fa)) {vs : List Value} {ns : List Int} (hl : s₁.heap.PlainList l vs.toArray) (hi : IntsAre vs ns) (hz : ns.length ≤ 63) :
    wpAny (model prog w) callerA (call (.ref fa) [.ref l] []) (fun v s' => v = .bool true ∧ (∀ b o, s₁.heap.get? b = some o → s'.heap.get? b = some o) ∧ s'.os = s₁.os ∧ s'.gens = #[]) (fun _ _ => False) s₁ := by
  let g : Gl := ⟨w, s₁.heap, s₁.os, mg, mb, KX, T⟩
  have e660 : nsIn g.K mainGlobals (Str.ofString "law") = some (some (.ref 660)) := by kernel_rfl
  obtain rfl := law_at KX T.g e660 hm
  have bk : Bk g (fun _ => False) [] s₁ := ⟨⟨fun a o e => ⟨id, e⟩, hg, rfl, nofun⟩, List.nodup_nil, nofun⟩
  have at1 : Ats (fun _ => False) s₁.heap [.lst (ns.map D.int)] [.ref l] := ⟨_, _, rfl, ⟨l, vs, rfl, id, hl, ats_of hi⟩, rfl⟩
  have hc := c_law (g := g) (ns := ns) (Q := fun d mu => d = .bool true ∧ mu = []) (by omega) ⟨rfl, rfl⟩ callerA (fun _ => False) s₁ [.ref l] room0 bk at1
  refine wpAny_call (codeAny_mono hc fun r s' h' => ?_)
  obtain ⟨v, rfl, d, mu', X', z⟩ := h'
  obtain ⟨rfl, rfl⟩ := z.q
  exact ⟨z.at_, fun b o e => z.kept b o e nofun, z.bk.base.os, z.bk.base.gens⟩
end Mine
theorem PySem.Challenge.cw_xm0374_01_holds : PySem.Challenge.rw_xm0374_01.Holds := by
  refine Mine.hd ⟨Mine.left_f, Mine.left_t, ?_⟩
  intro w s₀ s₁ mg mb G Y fa o pm cd doc dV kV ho hd hcd hD hmg hg args vals as hpre hlay hrd hwl hlo
  have KX := kIn_of Y
  refine Ground.open G ?_
  intro T B D TE TW
  wrow_args hpre hlay hrd hwl hlo
  rename_i ns _ _ _ _ _ _ _ l vs _ hL _ hw _ hI _ hle _
  have hlen : ns.length ≤ 63 := by omega
  have hpl : s₁.heap.PlainList l vs.toArray := by
    obtain ⟨ob, hob, _, nn, hdat⟩ := hL
    have hw' : Well w.params s₁.heap (Value.ref l) (.list (ofPys (List.map PyData.int ns))) := hw
    cases hw' with
    | list h1 h2 =>
      rw [h1] at hob
      cases hob
      cases hdat
      exact ⟨_, h1⟩
  refine wpAny_mono (Mine.walk_of KX (topRead_of T) hg hmg hpl hI hlen) (fun v s' h => ?_) (fun _ _ z => z.elim)
  obtain ⟨rfl, h1, h2, h3⟩ := h
  refine GoodW.toG ⟨.inl ⟨.bool true, .bool true, [], rfl, fun cls => by rfl, .bool true, ?_, fun _ => ⟨List.nodup_nil, nofun⟩⟩, h1, h2, h3⟩
  first
  | wrow_post
  | rfl
  | decide
