import PyProof.Rows.All
import Wide.All
import OpenK.AllK
import Wide.FinOn
import Lean
import PySem.Challenge.RW_np0177_01
set_option Elab.async false
set_option pp.maxSteps 5000
set_option compiler.extract_closed false

/-! ## part Hd -/
namespace Mine
open PySem PySem.W PyProof.Rows
theorem with_both {P Q R : Prop} (hl : P) (hc : Q) (k : R) : R := (fun _ _ => k) hl hc
set_option maxRecDepth 100000 in
set_option maxHeartbeats 8000000 in
noncomputable def hd : (A : Prop) ×' (B : Prop) ×' (A → B → PySem.Challenge.rw_np0177_01.Holds) := by
  apply PSigma.mk
  case snd =>
    apply PSigma.mk
    case snd =>
      intro h1 h2
      w_on
      o_law
      apply with_both
      case k =>
        k_head
        w_witness2
      case hc => exact h2
      case hl => exact h1
/-- the top's run, with its objects in a tree, by the library's quick forms of stepOk, stepT, denote and treeTable -/
noncomputable def topRunT (p : Program) (w : World) (n₀ : Nat) (ann : Option Value) : Nat → SharedT → Thread → Option SharedT
  | 0, _, _ => none
  | n + 1, s, t => match through t with
    | true => some s
    | false => match Fast.tw6613529449190102663 n₀ ann t with
      | false => none
      | true => match Fast.tw10156331382660048174 (Fast.tw11892475500146522536 Fast.tw14364793385576792824) p w s t with
        | some (s', t') => topRunT p w n₀ ann n s' t'
        | none => none
theorem topRunT_of {p : Program} {w : World} {n₀ : Nat} {ann : Option Value} : ∀ {n : Nat} {s r : SharedT} {t : Thread}, topRunT p w n₀ ann n s t = some r → topRun treeTable p w n₀ ann n s.abs t = some r.abs
  | 0, _, _, _, h => by cases h
  | n + 1, s, r, t, h => by
    unfold topRunT at h
    rw [← Fast.te6613529449190102663, ← Fast.te10156331382660048174, ← Fast.te11892475500146522536, ← Fast.te14364793385576792824] at h
    unfold topRun
    cases e1 : through t with
    | true => rw [e1] at h; cases h; rfl
    | false =>
      rw [e1] at h
      cases e2 : stepOk n₀ ann t with
      | false => rw [e2] at h; cases h
      | true =>
        rw [e2] at h
        cases e3 : stepT (denote treeTable) p w s t with
        | none => rw [e3] at h; cases h
        | some x =>
          obtain ⟨s', t'⟩ := x
          rw [e3] at h
          rw [stepT_spec e3]
          exact topRunT_of h
noncomputable def bootT (P : Params) : BT := BT.node (boot_o_0 P) (BT.node (boot_o_1 P) (BT.node (boot_o_3 P) (BT.node (boot_o_7 P) BT.nil BT.nil) BT.nil) (BT.node (boot_o_5 P) (BT.node (boot_o_9 P) BT.nil BT.nil) BT.nil)) (BT.node (boot_o_2 P) (BT.node (boot_o_4 P) (BT.node (boot_o_8 P) BT.nil BT.nil) BT.nil) (BT.node (boot_o_6 P) (BT.node (boot_o_10 P) BT.nil BT.nil) BT.nil))
noncomputable def bootS (w : World) (os : OsState) : SharedT := ⟨bootT w.params, 11, {}, Array.mk [], boot_drawn, boot_toks, os⟩
theorem left_of_tree {p : Program} {β : Type} {G G' : Shared → β} {X : World → β} {N : Nat} {ann : Option Value} {C : Shared → Shared → Bool}
    (hC : ∀ (w : World) (s₀ : Shared), topFrom treeTable p w N s₀ = (match s₀.heap.isNs mainGlobals && s₀.gens.size == 0 with
      | true => (topRun treeTable p w s₀.heap.objs.size (s₀.heap.nsMap mainGlobals "__annotations__") N s₀ (topStub p)).bind fun s₁ => (match C s₀ s₁ with | true => some s₁ | false => none)
      | false => none))
    (hG : G = G') (e : opening p = plainProg p.main.scope.names) (hN : Nat.ble 600 N = true) (f : ∀ s, fenceModules? p s = some s)
    (size : ∀ w : World, ((boot_heap w.params).isNs mainGlobals && (Array.mk ([] : List GenState)).size == 0, (boot_heap w.params).objs.size, (boot_heap w.params).nsMap mainGlobals "__annotations__") = (true, 11, ann))
    (abs : ∀ (w : World) (os : OsState), (bootS w os).abs = ⟨boot_heap w.params, Array.mk [], boot_drawn, boot_toks, os⟩)
    (run : ∀ (w : World) (os : OsState), (topRunT p w 11 ann N (bootS w os) (topStub p)).map (fun r => (C ⟨boot_heap w.params, Array.mk [], boot_drawn, boot_toks, os⟩ r.abs, G' r.abs)) = some (true, X w)) :
    ∀ w, (openEnds treeTable p w N).map G = some (X w) := fun w => by
  subst hG
  obtain ⟨⟨h, gs, d, k, os⟩, e1, e2⟩ := Option.map_eq_some_iff.mp (boot_open e hN f w)
  obtain ⟨rfl, rfl, rfl, rfl⟩ : h = boot_heap w.params ∧ gs = Array.mk [] ∧ d = boot_drawn ∧ k = boot_toks := by simpa only [Prod.mk.injEq] using e2
  obtain ⟨z1, z2, z3⟩ : _ ∧ _ ∧ _ := by simpa only [Prod.mk.injEq] using size w
  obtain ⟨r, r1, r2⟩ := Option.map_eq_some_iff.mp (run w os)
  obtain ⟨l1, l2⟩ := Prod.mk.inj r2
  have r3 := topRunT_of r1
  rw [abs w os] at r3
  have t : topFrom treeTable p w N ⟨boot_heap w.params, Array.mk [], boot_drawn, boot_toks, os⟩ = some r.abs := by
    rw [hC]
    dsimp only
    rw [z1, z2, z3, r3]
    show (match C _ r.abs with | true => _ | false => _) = _
    rw [l1]
  unfold openEnds
  rw [e1]
  show (topFrom treeTable p w N _).map _ = _
  rw [t]
  exact congrArg some l2
theorem hd_left : hd.1 := by
  show LeftO _ _ _ _ _ _ _
  apply left_of_tree (ann := some (.ref 6))
  case hC =>
    intro w s
    rfl
  case hG => rw [Fast.te4187177175401517315]
  case e => kernel_rfl
  case hN => kernel_rfl
  case f =>
    intro s
    kernel_rfl
  case size =>
    intro w
    kernel_rfl
  case abs =>
    intro w os
    kernel_rfl
  case run =>
    intro w os
    kernel_rfl
end Mine

namespace Mine
open PySem PySem.W PySem.Spec PySem.Calls PyProof.Rows

/-! ## part Ct -/
section
local macro_rules | `(tactic| walk_at "no such place") => `(tactic| skip)
theorem top_off_Ct : True := by
  w_top off
  trivial
/-- the heap grew: nothing that stood has turned -/
noncomputable def Grew (h h' : Heap) : Prop := ∀ b o, h.get? b = some o → h'.get? b = some o
theorem Grew.refl (h : Heap) : Grew h h := fun _ _ e => e
theorem Grew.trans {a b c : Heap} (x : Grew a b) (y : Grew b c) : Grew a c := fun _ _ e => y _ _ (x _ _ e)
/-- these were made between h and h' -/
noncomputable def MadeIn (h h' : Heap) (tl : List (Addr × Obj)) : Prop := ∀ p ∈ tl, h'.get? p.1 = some p.2 ∧ h.get? p.1 = none
/-- a call's contract: what stands before (Pre), what comes back (Out: what was made, the value); nothing that stood is turned -/
noncomputable def CT (prog : Program) (w : World) (K : Frag) (p : Program) (loose : List Str) (mean : ExcName → Option Value) (mg mb : Str → Option Value) (f : Addr)
    (deep units : Nat) (Pre : Heap → List Value → Prop) (Out : List (Addr × Obj) → Value → Prop) : Prop :=
  ∀ (dp un : Nat) (gd : Option (List Code)) (cn : Str) (cs : Scope) (a : Addr) (ccd : Value) (cl : List (Str × Addr)) (outer : List Env) (A₀ : Around) (base h₀ : Heap) (L : Addr) (m : Str → Option Value) (s : Shared) (vs : List Value)
    (Q E : Value → Shared → Prop),
    Below A₀ base outer h₀ → Fr h₀ L s.heap m → K.In h₀ → Top p loose mean mg mb h₀ → cs.kind = .function → Pre s.heap vs → dp + deep < recursionLimit → un + units < cLine →
    (∀ r tl h' tk', Grew s.heap h' → MadeIn s.heap h' tl → Out tl r → Q r { s with heap := h', toks := tk' }) →
    wpAny (model prog w) (ktrTop dp un gd cn cs L a ccd cl outer) (call (.ref f) vs) Q E s

/-- a def's end: the frame and the ledger as they stand there -/
noncomputable def BEnd (g : Heap) (Q : Value → Shared → Prop) (v : Value) (s' : Shared) : Prop :=
  ∃ L' m' news', Fr g L' s'.heap m' ∧ News g L' s'.heap news' ∧ (Grew g s'.heap → MadeIn g s'.heap news' → Q v s')
theorem BEnd.intro {g : Heap} {Q : Value → Shared → Prop} {v : Value} {s' : Shared} {L' : Addr} {m' : Str → Option Value} {news' : List (Addr × Obj)} (F : Fr g L' s'.heap m') (N : News g L' s'.heap news')
    (h : Grew g s'.heap → MadeIn g s'.heap news' → Q v s') : BEnd g Q v s' := ⟨L', m', news', F, N, h⟩
theorem BEnd.out {g : Heap} {Q : Value → Shared → Prop} {v : Value} {s' : Shared} (x : BEnd g Q v s') : Q v s' := by
  obtain ⟨L', m', news', F, N, h⟩ := x
  exact h F.keep fun p hp => ⟨(N p hp).1, (N p hp).2.2⟩
theorem MadeIn.sub {h h' : Heap} {tl tl' : List (Addr × Obj)} (x : MadeIn h h' tl) (s : ∀ p ∈ tl', p ∈ tl) : MadeIn h h' tl' := fun p hp => x p (s p hp)

section
variable {prog : Program} {w : World} {A₀ A : Around} {s : Shared} {base h₀ : Heap} {outer : List Env} {L : Addr} {m : Str → Option Value} {env : Env} {K : Frag} {p : Program} {loose : List Str} {mean : ExcName → Option Value} {mg mb : Str → Option Value}
  {name qual : Str} {params : Arguments} {body : List Stmt} {scope : Scope} {dV kV doc pm cdv ct oc : Value} {an od : Option Addr} {osl : Array (Option Value)} {f : Addr} {args : Args} {binds : List (Str × Value)} {Q E : Value → Shared → Prop}
noncomputable abbrev RetTo (Q E : Value → Shared → Prop) : Result → Shared → Prop := fun r s' => match r with | .ok (.ret v) => Q v s' | .ok _ => False | .error e => E e s'
theorem news0 {h : Heap} : News h₀ L h [] := News.nil
theorem leave_B {g : Heap} {v : Value} {s' : Shared} (x : BEnd g Q v s') : BEnd g Q v s' := x

/-- a plain def is entered, the whole heap its ground -/
theorem b_def (B : Below A₀ base outer h₀) (F : Fr h₀ L s.heap m) (X₀ : K.In h₀) (T : Top p loose mean mg mb h₀) (hA : A.frames = some (env :: outer)) (hf : env.frame = some L) (hke : env.scope.kind = .function)
    (ho : K.lookup f = some ⟨oc, od, .func (fnOf name qual params body scope dV kV doc pm an cdv ct), osl⟩) (hcd : codeIn K cdv qual = true) (hroom : A.depth < recursionLimit)
    (hbind : BindsTo s (fnOf name qual params body scope dV kV doc pm an cdv ct) args binds) (hloc : ∀ y ∈ binds, scope.names.lookup y.1 = some .local)
    (h : ∀ L' h₁ tk, Fr s.heap L' h₁ (fun y => binds.reverse.lookup y) → News s.heap L' h₁ [] → Below A base (env :: outer) s.heap → K.In s.heap → Top p loose mean mg mb s.heap →
      wpAny (model prog w) (A.deeper (envOf qual scope L' f cdv)) (execs body (envOf qual scope L' f cdv))
        (fun fl s' => BEnd s.heap Q (match fl with | .ret v => v | _ => .none) s')
        (fun e s' => wpAny (model prog w) (A.deeper (envOf qual scope L' f cdv)) (leaving (envOf qual scope L' f cdv) e) (fun _ s'' => E e s'') (fun e' s'' => E e' s'') s')
        { s with heap := h₁, toks := tk })
    (hco : scope.isCoroutine = false) (hgen : scope.isGenerator = false) (hk : scope.kind = .function)
    (hcell : ∀ x ∈ scope.names, x.2 ≠ .cell) : wpAny (model prog w) A (call (.ref f) args.pos args.kw) Q E s := by
  refine wpAny_call ?_
  obtain ⟨FG, BG, st, lv⟩ := groundX (R := RetTo Q E) B F (News.nil (h := s.heap)) hA hf hke
  refine codeAny_call_def (fd := fnX name qual params body scope [] dV kV doc pm an cdv ct) (body := body) (binds := binds) hroom ((X₀.keeps F.keep) _ _ ho) rfl (T.nolimit.keeps F.keep) (codeRec_of (X₀.keeps F.keep) hcd) rfl hbind hcell hloc (fun h₁ hns hk₁ => ?_) hco hgen hk
  exact wpAny_mono (h s.heap.objs.size h₁ _ ⟨hns, hk₁, Nat.le_refl _⟩ News.nil BG (X₀.keeps F.keep) (T.keeps F.keep)) (fun fl s' hl => hl.out) fun _ _ y => y

/-- a def with cells is entered, the whole heap its ground -/
theorem b_defC (B : Below A₀ base outer h₀) (F : Fr h₀ L s.heap m) (X₀ : K.In h₀) (T : Top p loose mean mg mb h₀) (hA : A.frames = some (env :: outer)) (hf : env.frame = some L) (hke : env.scope.kind = .function)
    (ho : K.lookup f = some ⟨oc, od, .func (fnOf name qual params body scope dV kV doc pm an cdv ct), osl⟩) (hcd : codeIn K cdv qual = true) (hroom : A.depth < recursionLimit)
    (hbind : BindsTo s (fnOf name qual params body scope dV kV doc pm an cdv ct) args binds) (hkind : (binds.all fun y => scope.names.lookup y.1 == some .local || scope.names.lookup y.1 == some .cell) = true)
    (hnd : ((cellsFrom 0 scope.names []).map (·.1)).Nodup)
    (h : ∀ L' h₁ tk cells, Fr s.heap L' h₁ (bindL (envOfC qual scope L' f cdv).kindOf binds fun _ => none) → News s.heap L' h₁ cells →
      CellsAre (bindC (envOfC qual scope L' f cdv).kindOf binds fun _ => none) (cellsFrom (L' + 1) scope.names []) cells → Below A base (env :: outer) s.heap → K.In s.heap → Top p loose mean mg mb s.heap →
      wpAny (model prog w) (A.deeper (envOfC qual scope L' f cdv)) (execs body (envOfC qual scope L' f cdv))
        (fun fl s' => BEnd s.heap Q (match fl with | .ret v => v | _ => .none) s')
        (fun e s' => wpAny (model prog w) (A.deeper (envOfC qual scope L' f cdv)) (leaving (envOfC qual scope L' f cdv) e) (fun _ s'' => E e s'') (fun e' s'' => E e' s'') s')
        { s with heap := h₁, toks := tk })
    (hco : scope.isCoroutine = false) (hgen : scope.isGenerator = false) (hk : scope.kind = .function) : wpAny (model prog w) A (call (.ref f) args.pos args.kw) Q E s := by
  refine wpAny_call ?_
  obtain ⟨FG, BG, st, lv⟩ := groundX (R := RetTo Q E) B F (News.nil (h := s.heap)) hA hf hke
  refine codeAny_call_function hroom ((X₀.keeps F.keep) _ _ ho) rfl hco hgen rfl (codeRec_of (X₀.keeps F.keep) hcd) (hbind _ _ _ _ ?_)
  refine wpAny_newFunctionEnv_cells hk (kindsX hkind _) fun env' he s' x => ?_
  subst he
  refine ⟨(T.nolimit.keeps F.keep).keeps x.toInCall.keep, codeAny_func ?_⟩
  obtain ⟨h₁, tk, rfl, _⟩ := x.done
  have hk₁ := x.toInCall.keep
  obtain ⟨cells, NC, Y⟩ := Cl.news (h₀ := s.heap) (Nat.le_refl _) fun n c hm => ⟨x.cell n c (lookup_of_mem_nodup (cellsFrom_names scope.names 0 (s.heap.objs.size + 1) [] [] rfl ▸ hnd) hm), x.above n c hm⟩
  exact wpAny_mono (h s.heap.objs.size h₁ tk cells ⟨x.toInCall.ns, hk₁, Nat.le_refl _⟩ NC Y BG (X₀.keeps F.keep) (T.keeps F.keep)) (fun fl s' hl => hl.out) fun _ _ y => y

/-- what a call has made goes onto the caller's ledger -/
theorem ct_fr {h h' : Heap} (F : Fr h₀ L h m) (g : Grew h h') : Fr h₀ L h' m := F.keeps g
theorem ct_news {h h' : Heap} {news tl : List (Addr × Obj)} (F : Fr h₀ L h m) (N : News h₀ L h news) (g : Grew h h') (d : MadeIn h h' tl) : News h₀ L h' (tl ++ news) := by
  intro p hp
  rcases List.mem_append.mp hp with hp | hp
  · obtain ⟨h1, h2⟩ := d p hp
    refine ⟨h1, fun e => ?_, ?_⟩
    · obtain ⟨o, _, _, ho, _⟩ := F.ns
      rw [e, ho] at h2; cases h2
    · cases q : h₀.get? p.1 with
      | none => rfl
      | some o => rw [F.keep _ _ q] at h2; cases h2
  · exact ⟨g _ _ (N p hp).1, (N p hp).2⟩
theorem ct_off {h h' : Heap} {news tl : List (Addr × Obj)} (N : News h₀ L h news) (d : MadeIn h h' tl) : ∀ q ∈ news, ∀ p ∈ tl, p.1 ≠ q.1 := fun q hq p hp e => by
  have h1 := (N q hq).1
  have h2 := (d p hp).2
  rw [e, h1] at h2; cases h2
end
end

/-! ## part Base -/
section
local macro_rules | `(tactic| walk_at "no such place") => `(tactic| skip)
local macro_rules | `(tactic| walk_at "no such place") => `(tactic| skip)
theorem top_off_Base : True := by
  w_top off
  trivial
section
variable {M : Model} {prog : Program} {w : World} {A : Around} {E : Value → Shared → Prop} {s : Shared} {h₀ h : Heap} {L l : Addr} {m : Str → Option Value}
theorem b_inst {x C dx : Addr} {sl : Array (Option Value)} {od : Obj} (F : Fr h₀ L h m) (h1 : h₀.get? x = some ⟨.ref C, some dx, .plain, sl⟩) (h2 : h₀.get? dx = some od) : InstAt h x ⟨.ref C, some dx, .plain, sl⟩ C (some od) :=
  ⟨F.keep _ _ h1, rfl, rfl, F.keep _ _ h2⟩
theorem b_inst2 {g h₁ : Heap} {L₁ : Addr} {m₁ : Str → Option Value} {x C dx : Addr} {sl : Array (Option Value)} {od : Obj} (F : Fr g L h m) (G : Fr h₁ L₁ g m₁) (h1 : h₁.get? x = some ⟨.ref C, some dx, .plain, sl⟩) (h2 : h₁.get? dx = some od) : InstAt h x ⟨.ref C, some dx, .plain, sl⟩ C (some od) :=
  ⟨F.keep _ _ (G.keep _ _ h1), rfl, rfl, F.keep _ _ (G.keep _ _ h2)⟩
theorem b_len {us : List Value} {Q : Value → Shared → Prop} (hl : s.heap.IsList l us.toArray) (hfit : (us.length : Int) < 2 ^ 63)
    (h : Q (.int (us.length : Int) (s.toks + 1)) { s with toks := s.toks + 1 + 1 }) : wpAny (model prog w) A (call (.builtin "len") [.ref l]) Q E s :=
  len_list hl (by rw [List.size_toArray]; exact hfit) (by rw [List.size_toArray]; exact h)
theorem b_item {value slice : PySem.Expr} {us : List Value} {k : Int} {u : Tok} {v : Value} {Q : Value → Shared → Prop} (hl : s.heap.IsList l us.toArray)
    (h0 : 0 ≤ k) (hhi : k < 2 ^ 63) (hx : us[k.toNat]? = some v) (h : Q v s)
    (hs : subscripted slice false (.ref l) (.int k u) = operate [.ref l, .int k u] (getItem (.ref l) (.int k u)) := by with_unfolding_all rfl) :
    wpAny (model prog w) A (subscriptTail value slice (.ref l) (.int k u)) Q E s :=
  tail_any hl.typeIs slot_list_getitem.lookup (wpAny_getItem_list hl h0 hhi (by simpa using hx) h) hs
end
theorem ints_at {xs : List Value} {ns : List Int} (h : IntsAre xs ns) {i : Nat} (hi : i < ns.length) : ∃ t, xs[i]? = some (.int (ns.getD i 0) t) := by
  obtain ⟨t, e⟩ := h.get i ns[i] (by simp [hi])
  exact ⟨t, by rw [e]; simp [List.getD, hi]⟩
noncomputable abbrev ent (P : Params) (x : Str) (t : Tok) (v : Value) : DictEntry := ⟨PyData.keyHash P x, .str x t, v⟩
noncomputable abbrev shapeDict (P : Params) (sec slab : Value) (ts : List Tok) (vs : List Value) : Obj :=
  dictOf [ent P (Str.ofString "sector") (ts.getD 0 0) sec, ent P (Str.ofString "slab") (ts.getD 1 0) slab, ent P (Str.ofString "record") (ts.getD 2 0) (vs.getD 0 .none), ent P (Str.ofString "fan") (ts.getD 3 0) (vs.getD 1 .none),
    ent P (Str.ofString "dnodes") (ts.getD 4 0) (vs.getD 2 .none), ent P (Str.ofString "ring") (ts.getD 5 0) (vs.getD 3 .none), ent P (Str.ofString "defer") (ts.getD 6 0) (vs.getD 4 .none), ent P (Str.ofString "most_record") (ts.getD 7 0) (vs.getD 5 .none),
    ent P (Str.ofString "uber") (ts.getD 8 0) (vs.getD 6 .none), ent P (Str.ofString "config") (ts.getD 9 0) (vs.getD 7 .none), ent P (Str.ofString "zap") (ts.getD 10 0) (vs.getD 8 .none)] 11
/-- a Shape: its sector, its slab -/
noncomputable def ShapeIn (P : Params) (h : Heap) (sh : Addr) (sec slab : Int) : Prop :=
  ∃ d t1 t2 ts vs, h.get? sh = some (instObj 146 d) ∧ h.get? d = some (shapeDict P (.int sec t1) (.int slab t2) ts vs)
theorem ShapeIn.grew {P : Params} {h h' : Heap} {sh : Addr} {sec slab : Int} (x : ShapeIn P h sh sec slab) (g : Grew h h') : ShapeIn P h' sh sec slab :=
  let ⟨d, t1, t2, ts, vs, a, b⟩ := x; ⟨d, t1, t2, ts, vs, g _ _ a, g _ _ b⟩
noncomputable def digit (ns : List Int) (at' : Int) : Int := if at' < (ns.length : Int) then ns.getD at'.toNat 0 else 53 * at' + 6
end

/-! ## part Plain -/
section
local macro_rules | `(tactic| walk_at "no such place") => `(tactic| skip)
local macro_rules | `(tactic| walk_at "no such place") => `(tactic| skip)
local macro_rules | `(tactic| walk_at "no such place") => `(tactic| skip)
theorem top_off_Plain : True := by
  w_top off
  trivial
noncomputable def bigOf (M W P : Int) : Int := if 0 < M % (W - P) then M % (W - P) + P else 0
noncomputable def usedOf (M W P : Int) : Nat := (if M / (W - P) = 0 then bigOf M W P else W).toNat
noncomputable def sizeAt (M W P : Int) (k : Nat) : Int := if (k : Int) < bigOf M W P then M / (W - P) + 1 else M / (W - P)
noncomputable def sizes (M W P : Int) : List Int := (List.range (usedOf M W P)).map (sizeAt M W P)
theorem sizes_is {M W P : Int} {n : Nat} {g : Int → Int} (hn : n = usedOf M W P) (hg : ∀ k : Nat, k < n → g (0 + (k : Int)) = sizeAt M W P k) : (rangeKs 0 n).map g = sizes M W P := by
  unfold rangeKs sizes
  rw [List.map_map, ← hn]
  apply List.map_congr_left
  intro k hk
  exact hg k (List.mem_range.mp hk)
theorem sizes_len2 {M W P : Int} (h0 : 1 ≤ M) (h4 : 1 ≤ P) (h6 : P < W) : 2 ≤ (sizes M W P).length := by
  unfold sizes usedOf bigOf
  rw [List.length_map, List.length_range]
  have h1 := Int.emod_nonneg M (show W - P ≠ 0 by omega)
  have h2 := Int.mul_ediv_add_emod M (W - P)
  by_cases hz : M / (W - P) = 0
  · rw [if_pos hz]
    rw [hz] at h2
    split <;> omega
  · rw [if_neg hz]; omega
theorem sizes_len {M W P : Int} (h4 : 1 ≤ P) (h5 : P ≤ 3) (h6 : P < W) (h7 : W < 10) : (sizes M W P).length ≤ 20 := by
  unfold sizes usedOf bigOf
  rw [List.length_map, List.length_range]
  have h1 := Int.emod_lt_of_pos M (show 0 < W - P by omega)
  (repeat' split) <;> omega
end

local macro_rules | `(tactic| k_room) => `(tactic| ktr_room)
local macro_rules | `(tactic| k_units) => `(tactic| ktr_units)
local macro_rules | `(tactic| ktn_open) => `(tactic| k_dflt (first
  | (refine' b_def (args := ⟨_, []⟩) ?k1 ?k2 ?k3 ?k5 ?kA ?kF ?kK ?k6 ?k7 ?k8 ?k9 ?kB ?_ ?c2 ?c3 ?c4 ?c5; (case kA => exact rfl); (case kF => exact rfl); (case kK => first | exact rfl | assumption); (case k1 => k_asm); (case k2 => k_asm); (case k3 => k_asm); (case k5 => k_asm); (case k6 => k_is); (case k7 => k_is); (case k8 => k_room); (case k9 => first | exact BindsTo.of_eq rfl | exact binds_K (by k_in) rfl (by k_is) rfl rfl rfl); (case c5 => decide); (case kB => exact locs rfl); (case c2 => exact rfl); (case c3 => exact rfl); (case c4 => exact rfl); k_whole; intro L' h' tk' F' N' B' X' T'; (try dsimp only); (try k_fold))
  | (refine' b_defC (args := ⟨_, []⟩) ?k1 ?k2 ?k3 ?k5 ?kA ?kF ?kK ?k6 ?k7 ?k8 ?k9 ?kB ?kD ?_ ?c2 ?c3 ?c4; (case kA => exact rfl); (case kF => exact rfl); (case kK => first | exact rfl | assumption); (case k1 => k_asm); (case k2 => k_asm); (case k3 => k_asm); (case k5 => k_asm); (case k6 => k_is); (case k7 => k_is); (case k8 => k_room); (case k9 => first | exact BindsTo.of_eq rfl | exact binds_K (by k_in) rfl (by k_is) rfl rfl rfl); (case kB => exact rfl); (case kD => decide +kernel); (case c2 => exact rfl); (case c3 => exact rfl); (case c4 => exact rfl); k_whole; intro L' h' tk' cells' F' N' Y' B' X' T'; k_cells Y'; (try simp only [List.cons_append, List.nil_append] at N'); (try dsimp only); (try k_fold))))
local macro_rules | `(tactic| k_inst) => `(tactic| first | exact b_inst (by k_asm) (by assumption) (by assumption) | exact b_inst2 (by k_asm) (by k_asm) (by assumption) (by assumption))
local macro_rules | `(tactic| k_all) => `(tactic| (with_reducible assumption))
local macro_rules | `(tactic| size_fits) => `(tactic| ((simp only [List.size_toArray, PySem.sizeLine_eq]); omega))

/-! ## part T1 -/
section
local macro_rules | `(tactic| walk_at "no such place") => `(tactic| skip)
local macro_rules | `(tactic| walk_at "no such place") => `(tactic| skip)
local macro_rules | `(tactic| walk_at "no such place") => `(tactic| skip)
local macro_rules | `(tactic| walk_at "no such place") => `(tactic| skip)
theorem top_off_T1 : True := by
  w_top off
  trivial
set_option maxRecDepth 100000 in
set_option maxHeartbeats 8000000 in
theorem digit_ct {w : World} {p : Program} {loose : List Str} {mean : ExcName → Option Value} {mg mb : Str → Option Value} {ns : List Int} {at' : Int} (h0 : 0 ≤ at') (h1 : at' < 1000) (h2 : ns.length < 1000) :
    CT PySem.Challenge.rw_np0177_01.row.prog w (hd.heap_39 w.params) p loose mean mg mb 157 1 8 (fun h vs => ∃ l xs t, vs = [.ref l, .int at' t] ∧ h.IsList l xs.toArray ∧ IntsAre xs ns) (fun tl r => tl = [] ∧ ∃ t, r = .int (digit ns at') t) := by
  have hfill : PySem.Challenge.rw_np0177_01 = PySem.Challenge.rw_np0177_01 ∧ hd.heap_39 = hd.heap_39 := by k_fill; exact ⟨rfl, rfl⟩
  clear hfill
  unfold CT
  intro dp un gd cn cs a ccd cl outer A₀ base h₀ L m s vs Q E B F X T hk hR hd' hu hret
  obtain ⟨l, xs, t, rfl, hl, hi⟩ := hR
  have hlen := hi.length
  ktn_open
  k_steps
  all_goals (refine BEnd.intro (by assumption) (by assumption) ?_; intro hg9 hm9; (try dsimp only); refine hret _ [] _ _ hg9 (fun _ h9 => nomatch h9) ⟨rfl, ktn_int ?_⟩; (simp only [digit]; split <;> first | rfl | (exfalso; omega)))
set_option maxRecDepth 100000 in
set_option maxHeartbeats 8000000 in
theorem want_ct {w : World} {p : Program} {loose : List Str} {mean : ExcName → Option Value} {mg mb : Str → Option Value} {wide par : Int} (h4 : 1 ≤ par) (h5 : par ≤ 3) (h6 : par < wide) :
    CT PySem.Challenge.rw_np0177_01.row.prog w (hd.heap_39 w.params) p loose mean mg mb 88 1 8 (fun _ vs => ∃ t t', vs = [.int wide t, .int par t']) (fun tl r => tl = [] ∧ r = .none) := by
  have hfill : PySem.Challenge.rw_np0177_01 = PySem.Challenge.rw_np0177_01 ∧ hd.heap_39 = hd.heap_39 := by k_fill; exact ⟨rfl, rfl⟩
  clear hfill
  unfold CT
  intro dp un gd cn cs a ccd cl outer A₀ base h₀ L m s vs Q E B F X T hk hR hd' hu hret
  obtain ⟨t, t', rfl⟩ := hR
  ktn_open
  k_steps
  all_goals (refine BEnd.intro (by assumption) (by assumption) ?_; intro hg9 hm9; (try dsimp only); refine hret _ [] _ _ hg9 (fun _ h9 => nomatch h9) ⟨rfl, rfl⟩)
set_option maxRecDepth 100000 in
set_option maxHeartbeats 8000000 in
theorem sectors_ct {w : World} {p : Program} {loose : List Str} {mean : ExcName → Option Value} {mg mb : Str → Option Value} {oct sec slab : Int} (h2 : 0 < sec) (h3 : sec < 1000) :
    CT PySem.Challenge.rw_np0177_01.row.prog w (hd.heap_39 w.params) p loose mean mg mb 81 1 8 (fun h vs => ∃ sh t, vs = [.int oct t, .ref sh] ∧ ShapeIn w.params h sh sec slab) (fun tl r => tl = [] ∧ ∃ t, r = .int ((oct + sec - 1) / sec) t) := by
  have hfill : PySem.Challenge.rw_np0177_01 = PySem.Challenge.rw_np0177_01 ∧ hd.heap_39 = hd.heap_39 := by k_fill; exact ⟨rfl, rfl⟩
  clear hfill
  unfold CT
  intro dp un gd cn cs a ccd cl outer A₀ base h₀ L m s vs Q E B F X T hk hR hd' hu hret
  obtain ⟨sh, t, rfl, d, t1, t2, ts, vs, hsh, hdd⟩ := hR
  ktn_open
  k_steps
  all_goals (refine BEnd.intro (by assumption) (by assumption) ?_; intro hg9 hm9; (try dsimp only); refine hret _ [] _ _ hg9 (fun _ h9 => nomatch h9) ⟨rfl, ktn_int (Int.fdiv_eq_ediv_of_nonneg _ (by omega))⟩)
set_option maxRecDepth 100000 in
set_option maxHeartbeats 8000000 in
theorem turned_ct {w : World} {p : Program} {loose : List Str} {mean : ExcName → Option Value} {mg mb : Str → Option Value} {sector par sec slab : Int} (h2 : 0 < slab) (h3 : slab < 1000) :
    CT PySem.Challenge.rw_np0177_01.row.prog w (hd.heap_39 w.params) p loose mean mg mb 107 1 8 (fun h vs => ∃ sh t t', vs = [.int sector t, .int par t', .ref sh] ∧ ShapeIn w.params h sh sec slab) (fun tl r => tl = [] ∧ r = .bool (decide (par = 1 ∧ sector / slab % 2 = 1))) := by
  have hfill : PySem.Challenge.rw_np0177_01 = PySem.Challenge.rw_np0177_01 ∧ hd.heap_39 = hd.heap_39 := by k_fill; exact ⟨rfl, rfl⟩
  clear hfill
  unfold CT
  intro dp un gd cn cs a ccd cl outer A₀ base h₀ L m s vs Q E B F X T hk hR hd' hu hret
  obtain ⟨sh, t, t', rfl, d, t1, t2, ts, vs, hsh, hdd⟩ := hR
  ktn_open
  k_steps
  all_goals (refine BEnd.intro (by assumption) (by assumption) ?_; intro hg9 hm9; (try dsimp only); refine hret _ [] _ _ hg9 (fun _ h9 => nomatch h9) ⟨rfl, ?_⟩)
  all_goals (try rw [Int.fdiv_eq_ediv_of_nonneg _ (by omega : 0 ≤ slab), Int.fmod_eq_emod_of_nonneg _ (by decide : (0:Int) ≤ 2)])
  all_goals (congr 1; rw [Bool.eq_iff_iff]; simp only [decide_eq_true_eq, beq_iff_eq] at *; omega)
set_option maxRecDepth 100000 in
set_option maxHeartbeats 8000000 in
theorem asize_ct {w : World} {p : Program} {loose : List Str} {mean : ExcName → Option Value} {mg mb : Str → Option Value} {oct wide par sec slab : Int} (h2 : 0 < sec) (h3 : sec < 1000) (h4 : 1 ≤ par) (h5 : par ≤ 3) (h6 : par < wide) (h7 : wide < 10) :
    CT PySem.Challenge.rw_np0177_01.row.prog w (hd.heap_39 w.params) p loose mean mg mb 95 3 24 (fun h vs => ∃ sh t t' t'', vs = [.int oct t, .int wide t', .int par t'', .ref sh] ∧ ShapeIn w.params h sh sec slab)
      (fun tl r => tl = [] ∧ ∃ t, r = .int (((oct + sec - 1) / sec + par * (((oct + sec - 1) / sec + wide - par - 1) / (wide - par)) + par) / (par + 1) * (par + 1)) t) := by
  have hfill : PySem.Challenge.rw_np0177_01 = PySem.Challenge.rw_np0177_01 ∧ hd.heap_39 = hd.heap_39 := by k_fill; exact ⟨rfl, rfl⟩
  clear hfill
  unfold CT
  intro dp un gd cn cs a ccd cl outer A₀ base h₀ L m s vs Q E B F X T hk hR hd' hu hret
  obtain ⟨sh, t, t', t'', rfl, d, t1, t2, ts, vs, hsh, hdd⟩ := hR
  ktn_open
  k_steps
  all_goals (refine BEnd.intro (by assumption) (by assumption) ?_; intro hg9 hm9; (try dsimp only); refine hret _ [] _ _ hg9 (fun _ h9 => nomatch h9) ⟨rfl, ktn_int ?_⟩)
  all_goals (rw [Int.fdiv_eq_ediv_of_nonneg _ (by omega : 0 ≤ sec), Int.fdiv_eq_ediv_of_nonneg _ (by omega : 0 ≤ wide - par), Int.fdiv_eq_ediv_of_nonneg _ (by omega : 0 ≤ par + 1)])
end

/-! ## part T4 -/
section
theorem top_off_T4 : True := by
  w_top off
  trivial
set_option maxRecDepth 100000 in
set_option maxHeartbeats 8000000 in
theorem sizes_ct {w : World} {p : Program} {loose : List Str} {mean : ExcName → Option Value} {mg mb : Str → Option Value} {many wide par : Int} (h0 : 1 ≤ many) (h1 : many ≤ 100) (h4 : 1 ≤ par) (h5 : par ≤ 3) (h6 : par < wide) (h7 : wide < 10) :
    CT PySem.Challenge.rw_np0177_01.row.prog w (hd.heap_39 w.params) p loose mean mg mb 100 3 24 (fun _ vs => ∃ t t' t'', vs = [.int many t, .int wide t', .int par t''])
      (fun tl r => ∃ l ys, r = .ref l ∧ tl = [(l, LCg.lst ys)] ∧ IntsAre ys (sizes many wide par)) := by
  have hfill : PySem.Challenge.rw_np0177_01 = PySem.Challenge.rw_np0177_01 ∧ hd.heap_39 = hd.heap_39 := by k_fill; exact ⟨rfl, rfl⟩
  clear hfill
  unfold CT
  intro dp un gd cn cs a ccd cl outer A₀ base h₀ L m s vs Q E B F X T hk hR hd' hu hret
  obtain ⟨t, t', t'', rfl⟩ := hR
  have hf : many.fmod (wide - par) = many % (wide - par) := Int.fmod_eq_emod_of_nonneg _ (by omega)
  have hq : many.fdiv (wide - par) = many / (wide - par) := Int.fdiv_eq_ediv_of_nonneg _ (by omega)
  have hm0 : 0 ≤ many.fmod (wide - par) := by rw [hf]; exact Int.emod_nonneg _ (by omega)
  have hm1 : many.fmod (wide - par) < wide - par := by rw [hf]; exact Int.emod_lt_of_pos _ (by omega)
  ktn_open
  k_steps
  all_goals (refine BEnd.intro (by assumption) (by assumption) ?_; intro hg9 hm9; (try dsimp only); refine hret _ [(_, LCg.lst _)] _ _ hg9 (hm9.sub fun p hp => by rw [List.mem_singleton.mp hp]; exact List.mem_cons_self) ⟨_, _, rfl, rfl, ?_⟩)
  all_goals (refine (sizes_is ?_ ?_) ▸ (by assumption); all_goals (simp only [usedOf, sizeAt, bigOf, ← hf, ← hq]))
  all_goals (try (intro k9 hk9))
  all_goals ((repeat' split) <;> omega)
end

/-! ## part Loop -/
section
local macro_rules | `(tactic| walk_at "no such place") => `(tactic| skip)
theorem top_off_Loop : True := by
  w_top off
  trivial
/-- the walk stands still here -/
noncomputable def Stop (P : Prop) : Prop := P
theorem stop_of {P : Prop} (h : Stop P) : P := h
section
variable {prog : Program} {w : World} {A₀ : Around} {s : Shared} {base h₀ : Heap} {outer : List Env} {L : Addr} {m : Str → Option Value} {K : Frag} {p : Program} {loose : List Str} {mean : ExcName → Option Value} {mg mb : Str → Option Value}
  {f : Addr} {Q E : Value → Shared → Prop} {news : List (Addr × Obj)}
theorem ct_use {deep units : Nat} {Pre : Heap → List Value → Prop} {Out : List (Addr × Obj) → Value → Prop} {dp un : Nat} {gd : Option (List Code)} {cn : Str} {cs : Scope} {a : Addr} {ccd : Value} {cl : List (Str × Addr)} {vs : List Value}
    (C : CT prog w K p loose mean mg mb f deep units Pre Out) (B : Below A₀ base outer h₀) (F : Fr h₀ L s.heap m) (X : K.In h₀) (N : News h₀ L s.heap news) (T : Top p loose mean mg mb h₀) (hk : cs.kind = .function) (R : Pre s.heap vs)
    (hd : dp + deep < recursionLimit) (hu : un + units < cLine)
    (ret : ∀ r tl h' tk', Fr h₀ L h' m → News h₀ L h' (tl ++ news) → Grew s.heap h' → MadeIn s.heap h' tl → (∀ q ∈ news, ∀ p ∈ tl, p.1 ≠ q.1) → Out tl r → Q r { s with heap := h', toks := tk' }) :
    wpAny (model prog w) (ktrTop dp un gd cn cs L a ccd cl outer) (call (.ref f) vs) Q E s :=
  C dp un gd cn cs a ccd cl outer A₀ base h₀ L m s vs Q E B F X T hk R hd hu fun r tl h' tk' g d o => ret r tl h' tk' (ct_fr F g) (ct_news F N g d) g d (ct_off N d) o
end
section
variable {prog : Program} {w : World} {A : Around} {E : Value → Shared → Prop} {s : Shared} {env : Env} {h₀ : Heap} {target : Expr} {body : List Stmt} {Q : Flow → Shared → Prop}
theorem allObj_of : ∀ {ws : List (Addr × String)} {k : List (Addr × Obj) → Prop}, (∀ its, Objs ws its → k its) → AllObj ws k
  | [], _, h => h [] trivial
  | w :: _, _, h => fun o ho => allObj_of fun its hi => h ((w.1, o) :: its) ⟨⟨rfl, ho⟩, hi⟩
theorem unrPost_mono {L : Addr} {s₁ s₂ : Shared} {its : List (Addr × Obj)} {R R' : (Str → Option Value) → List (Addr × Obj) → Prop} {f : Flow} (h : ∀ m n, R m n → R' m n) (x : UnrPostW h₀ L s₁ its R Q f s₂) : UnrPostW h₀ L s₁ its R' Q f s₂ := by
  cases f with
  | ret v => exact x
  | brk => exact x
  | next => obtain ⟨h', tk, m', n', e, F, N, o, r⟩ := x; exact ⟨h', tk, m', n', e, F, N, o, h _ _ r⟩
  | cont => obtain ⟨h', tk, m', n', e, F, N, o, r⟩ := x; exact ⟨h', tk, m', n', e, F, N, o, h _ _ r⟩
/-- a loop over items of any number, by what holds between the turns -/
theorem items_ind {ws : List (Addr × String)} {keep : List (Addr × Obj)} {xs : List Itm} {m₀ : Str → Option Value} {news₀ : List (Addr × Obj)} (J : Nat → (Str → Option Value) → List (Addr × Obj) → Prop) (h0 : J 0 m₀ news₀)
    (turn : ∀ i a m news v h tk, xs[i]? = some a → a.Is v h → J i m news → Fr h₀ env.locals h m → AllObj ws (fun its => News h₀ env.locals h (its ++ news) →
      wpAny (model prog w) A (assign target env v) (fun _ s₂ => wpAny (model prog w) A (execs body env) (UnrPostW h₀ env.locals { s with heap := h, toks := tk } its (fun m' n' => SubL keep n' ∧ J (i + 1) m' n') Q) E s₂) E { s with heap := h, toks := tk }))
    (done : ∀ m news h tk, J xs.length m news → Fr h₀ env.locals h m → News h₀ env.locals h news → Q .next { s with heap := h, toks := tk }) :
    ItemsRest prog w A E h₀ env target body Q s ws keep xs m₀ news₀ := by
  have key : ∀ (k i : Nat) (m : Str → Option Value) (news : List (Addr × Obj)), i + k = xs.length → J i m news → ItemsRest prog w A E h₀ env target body Q s ws keep (xs.drop i) m news := by
    intro k
    induction k with
    | zero =>
      intro i m news hi hJ
      have e : i = xs.length := by omega
      subst e
      rw [List.drop_length]
      exact ItemsRest.zero fun h tk F N => done m news h tk hJ F N
    | succ k ih =>
      intro i m news hi hJ
      have hlt : i < xs.length := by omega
      rw [List.drop_eq_getElem_cons hlt]
      show ∀ v h tk, _ → _ → _
      intro v h tk hv F
      refine allObj_of fun its hits N => ?_
      have t := (turn i xs[i] m news v h tk (List.getElem?_eq_getElem hlt) hv hJ F).at hits N
      exact wpAny_mono t (fun _ s₂ x => wpAny_mono x (fun f s₃ y => unrPost_mono (fun m' n' r => ⟨r.1, ih (i + 1) m' n' (by omega) r.2⟩) y) fun _ _ e => e) fun _ _ e => e
  exact key xs.length 0 m₀ news₀ (by omega) h0
theorem subL_of : ∀ {l all : List (Addr × Obj)}, (∀ p ∈ l, p ∈ all) → SubL l all
  | [], _, _ => trivial
  | _ :: _, _, h => ⟨h _ (.head _), subL_of fun p hp => h p (.tail _ hp)⟩
end
/-- names that a loop stores, told and forgotten -/
theorem fr_one {m m₀ : Str → Option Value} {x : Str} {v : Value} {stored : List Str} (h1 : m x = some v) (h2 : ∀ z, z ≠ x → stored.contains z = false → m z = m₀ z) :
    m = fun z => if z = x then some v else if stored.contains z then m z else m₀ z := by
  funext z
  by_cases hz : z = x
  · rw [if_pos hz, hz]; exact h1
  · rw [if_neg hz]
    cases h3 : stored.contains z with
    | true => simp
    | false => simp only [Bool.false_eq_true, if_false]; exact h2 z hz h3
end

/-! ## part Cols -/
section
local macro_rules | `(tactic| walk_at "no such place") => `(tactic| skip)
local macro_rules | `(tactic| walk_at "no such place") => `(tactic| skip)
theorem top_off_Cols : True := by
  w_top off
  trivial
/-- a made Column: the object, its dict, the tokens, what it holds -/
structure CEnt where
  x : Addr
  d : Addr
  t1 : Tok
  t2 : Tok
  t3 : Tok
  t4 : Tok
  u1 : Tok
  u2 : Tok
  u3 : Tok
  u4 : Tok
  c : Int
  r : Int
  m : Int
  f : Int
noncomputable abbrev colDict (P : Params) (t1 t2 t3 t4 : Tok) (c r m f : Value) : Obj :=
  dictOf [ent P (Str.ofString "child") t1 c, ent P (Str.ofString "row") t2 r, ent P (Str.ofString "many") t3 m, ent P (Str.ofString "first") t4 f] 4
noncomputable def CEnt.dict (P : Params) (e : CEnt) : Obj := colDict P e.t1 e.t2 e.t3 e.t4 (.int e.c e.u1) (.int e.r e.u2) (.int e.m e.u3) (.int e.f e.u4)
noncomputable def CEnt.obj (P : Params) (e : CEnt) : List (Addr × Obj) := [(e.x, instObj 70 e.d), (e.d, e.dict P)]
noncomputable def CEnt.ads (e : CEnt) : List Addr := [e.x, e.d]
noncomputable def CEnt.col (e : CEnt) : Int × Int × Int × Int := (e.c, e.r, e.m, e.f)
noncomputable def bulkOf (P : Params) (es : List CEnt) : List (Addr × Obj) := es.flatMap (CEnt.obj P)
noncomputable def bulkAds (es : List CEnt) : List Addr := es.flatMap CEnt.ads
noncomputable def refsOf (es : List CEnt) : List Value := es.map fun e => .ref e.x
noncomputable def firstAt (szs : List Int) (PP : Int) (i : Nat) : Int := ((szs.take i).drop PP.toNat).sum
noncomputable def colAt (szs : List Int) (S W PP : Int) (i : Nat) : Int × Int × Int × Int :=
  ((S.fmod W + (i : Int)).fmod W, S.fdiv W + (S.fmod W + (i : Int)).fdiv W, szs.getD i 0, if (i : Int) < PP then -1 else firstAt szs PP i)
noncomputable def colsTo (szs : List Int) (S W PP : Int) (i : Nat) : List (Int × Int × Int × Int) := (List.range i).map (colAt szs S W PP)
noncomputable def swap2 : List (Int × Int × Int × Int) → List (Int × Int × Int × Int)
  | (c0, r0, m0, f0) :: (c1, r1, m1, f1) :: t => (c1, r1, m0, f0) :: (c0, r0, m1, f1) :: t
  | l => l
/-- the columns of a block, turned where they are to be -/
noncomputable def finCols (szs : List Int) (S W PP slab : Int) : List (Int × Int × Int × Int) :=
  if PP = 1 ∧ S / slab % 2 = 1 then swap2 (colsTo szs S W PP szs.length) else colsTo szs S W PP szs.length
noncomputable abbrev cStored : List Str := [Str.ofString "place", Str.ofString "many", Str.ofString "at", Str.ofString "is_parity"]
noncomputable def ColsJ (P : Params) (lf l : Addr) (ys : List Value) (szs : List Int) (S W PP : Int) (m₀ : Str → Option Value) (i : Nat) (m : Str → Option Value) (news : List (Addr × Obj)) : Prop :=
  ∃ es n t, news = (lf, listOf (refsOf es).toArray n) :: (l, LCg.lst ys) :: bulkOf P es ∧ es.map CEnt.col = colsTo szs S W PP i ∧ (lf :: l :: bulkAds es).Nodup ∧
    m (Str.ofString "first") = some (.int (firstAt szs PP i) t) ∧ ∀ z, z ≠ Str.ofString "first" → cStored.contains z = false → m z = m₀ z

theorem bulk_ads (P : Params) (es : List CEnt) : (bulkOf P es).map (·.1) = bulkAds es := by
  simp [bulkOf, bulkAds, List.map_flatMap, CEnt.obj]; rfl
theorem bulk_snoc (P : Params) (es : List CEnt) (e : CEnt) : bulkOf P (es ++ [e]) = bulkOf P es ++ e.obj P := by simp [bulkOf]
theorem ads_snoc (es : List CEnt) (e : CEnt) : bulkAds (es ++ [e]) = bulkAds es ++ e.ads := by simp [bulkAds]
theorem refs_snoc (es : List CEnt) (e : CEnt) : refsOf (es ++ [e]) = refsOf es ++ [.ref e.x] := by simp [refsOf]
theorem cols_snoc (szs : List Int) (S W PP : Int) (i : Nat) : colsTo szs S W PP (i + 1) = colsTo szs S W PP i ++ [colAt szs S W PP i] := by
  simp [colsTo, List.range_succ]
theorem bulk_cls {P : Params} {es : List CEnt} {p : Addr × Obj} (h : p ∈ bulkOf P es) : p.2.cls = .ref 70 ∨ p.2.cls = .type "dict" := by
  obtain ⟨e, _, he⟩ := List.mem_flatMap.mp h
  rcases List.mem_cons.mp he with rfl | he
  · exact .inl rfl
  · rw [List.mem_singleton.mp he]; exact .inr rfl
theorem bulk_off {P : Params} {lf l : Addr} {es : List CEnt} (h : (lf :: l :: bulkAds es).Nodup) : ∀ p ∈ bulkOf P es, p.1 ≠ lf := by
  intro p hp e
  have hm : p.1 ∈ bulkAds es := by rw [← bulk_ads P]; exact List.mem_map.mpr ⟨p, hp, rfl⟩
  exact (List.nodup_cons.mp h).1 (List.mem_cons_of_mem _ (e ▸ hm))
theorem bulk_off2 {P : Params} {lf l : Addr} {es : List CEnt} (h : (lf :: l :: bulkAds es).Nodup) : ∀ p ∈ bulkOf P es, p.1 ≠ l := by
  intro p hp e
  have hm : p.1 ∈ bulkAds es := by rw [← bulk_ads P]; exact List.mem_map.mpr ⟨p, hp, rfl⟩
  exact (List.nodup_cons.mp (List.nodup_cons.mp h).2).1 (e ▸ hm)
theorem bulk_two (P : Params) (e0 e1 : CEnt) (es : List CEnt) : bulkOf P (e0 :: e1 :: es) = (e0.x, instObj 70 e0.d) :: (e0.d, e0.dict P) :: (e1.x, instObj 70 e1.d) :: (e1.d, e1.dict P) :: bulkOf P es := by
  simp [bulkOf, CEnt.obj]
theorem ads_two (e0 e1 : CEnt) (es : List CEnt) : bulkAds (e0 :: e1 :: es) = e0.x :: e0.d :: e1.x :: e1.d :: bulkAds es := by
  simp [bulkAds, CEnt.ads]
theorem refs_two (e0 e1 : CEnt) (es : List CEnt) : refsOf (e0 :: e1 :: es) = .ref e0.x :: .ref e1.x :: refsOf es := rfl
theorem two_of {es : List CEnt} (h : 2 ≤ es.length) : ∃ e0 e1 es', es = e0 :: e1 :: es' := by
  match es, h with
  | e0 :: e1 :: es', _ => exact ⟨e0, e1, es', rfl⟩
theorem off_tail {P : Params} {a : Addr} {es : List CEnt} (h : a ∉ bulkAds es) : ∀ p ∈ bulkOf P es, p.1 ≠ a := by
  intro p hp e
  exact h (by rw [← bulk_ads P, ← e]; exact List.mem_map.mpr ⟨p, hp, rfl⟩)
theorem sub_cols {P : Params} {lf : Addr} {X : Obj} {l : Addr × Obj} {e0 e1 : CEnt} {es : List CEnt} : ∀ p ∈ (lf, X) :: bulkOf P (e0 :: e1 :: es), p ∈ (lf, X) :: l :: (e0.x, instObj 70 e0.d) :: (e0.d, e0.dict P) :: (e1.x, instObj 70 e1.d) :: (e1.d, e1.dict P) :: bulkOf P es := by
  intro p h
  rw [bulk_two] at h
  rcases List.mem_cons.mp h with rfl | h
  · exact .head _
  · exact .tail _ (.tail _ h)
/-- seven addresses, all apart -/
theorem apart6 {lf l a b c d : Addr} {as : List Addr} (h : (lf :: l :: a :: b :: c :: d :: as).Nodup) :
    (@Ne Nat lf l ∧ @Ne Nat lf a ∧ @Ne Nat lf b ∧ @Ne Nat lf c ∧ @Ne Nat lf d ∧ @Ne Nat l a ∧ @Ne Nat l b ∧ @Ne Nat l c ∧ @Ne Nat l d ∧ @Ne Nat a b ∧ @Ne Nat a c ∧ @Ne Nat a d ∧ @Ne Nat b c ∧ @Ne Nat b d ∧ @Ne Nat c d) ∧ b ∉ as ∧ d ∉ as := by
  simp only [List.nodup_cons, List.mem_cons, not_or] at h
  simp only [ne_eq]
  simp [h]
theorem lf_ne {lf l : Addr} {as : List Addr} (h : (lf :: l :: as).Nodup) : @Ne Nat l lf := fun e => (List.nodup_cons.mp h).1 (e ▸ List.mem_cons_self)
theorem cols_len {szs : List Int} {S W PP : Int} {i : Nat} {es : List CEnt} (h : es.map CEnt.col = colsTo szs S W PP i) : es.length = i := by
  have := congrArg List.length h
  simpa [colsTo] using this
theorem refs_len (es : List CEnt) : (refsOf es).length = es.length := by simp [refsOf]
theorem first_step_par {szs : List Int} {PP : Int} {i : Nat} (h : (i : Int) < PP) : firstAt szs PP (i + 1) = firstAt szs PP i := by
  unfold firstAt
  rw [List.drop_eq_nil_of_le (by rw [List.length_take]; omega), List.drop_eq_nil_of_le (by rw [List.length_take]; omega)]
theorem first_step {szs : List Int} {PP : Int} {i : Nat} (h : PP ≤ (i : Int)) (hi : i < szs.length) : firstAt szs PP (i + 1) = firstAt szs PP i + szs.getD i 0 := by
  unfold firstAt
  rw [List.take_add_one, List.getElem?_eq_getElem hi, Option.toList_some, List.drop_append_of_le_length (by rw [List.length_take]; omega), List.sum_append]
  simp [List.getD, hi]

section
variable {prog : Program} {w : World} {A : Around} {E : Value → Shared → Prop} {s : Shared} {env : Env} {h₀ : Heap} {elts : List Expr} {ek : Nat} {ep : Pos} {body : List Stmt} {Q : Flow → Shared → Prop}
/-- the loop of columns, by what stands between its turns -/
theorem cols_loop {P : Params} {lf l D : Addr} {oD : Obj} {ys : List Value} {szs : List Int} {S W PP : Int} {m₀ : Str → Option Value} {n₀ : Nat} {t₀ : Tok} (hh : A.handled = none) (F : Fr h₀ env.locals s.heap m₀)
    (N : News h₀ env.locals s.heap [(l, LCg.lst ys), (D, oD), (lf, listOf #[] n₀)]) (hy : IntsAre ys szs) (hne : l ≠ lf) (h1 : m₀ (Str.ofString "first") = some (.int 0 t₀))
    (turn : ∀ (i : Nat) es n T (t t' t'' : Tok) (u : Str → Option Value) h tk I (o o' : Obj), @LT.lt Nat _ lf I → @LT.lt Nat _ l I → i < szs.length → es.map CEnt.col = colsTo szs S W PP i → (lf :: l :: bulkAds es).Nodup → IsTup h T #[.int (i : Int) t, .int (szs.getD i 0) t'] →
      Fr h₀ env.locals h (fun z => if z = Str.ofString "first" then some (.int (firstAt szs PP i) t'') else if cStored.contains z then u z else m₀ z) → o.cls = .type "enumerate" → o'.cls = .type "list_iterator" →
      News h₀ env.locals h ((I + 1, o) :: (I, o') :: (lf, listOf (refsOf es).toArray n) :: (l, LCg.lst ys) :: bulkOf P es) →
      wpAny (model prog w) A (assign (.Tuple elts ek ep) env (.ref T)) (fun _ s₂ => wpAny (model prog w) A (execs body env)
        (UnrPostW h₀ env.locals { s with heap := h, toks := tk } [(I + 1, o), (I, o')] (fun m' n' => SubL [(l, LCg.lst ys)] n' ∧ ColsJ P lf l ys szs S W PP m₀ (i + 1) m' n') Q) E s₂) E { s with heap := h, toks := tk })
    (done : ∀ es n (t'' : Tok) (u : Str → Option Value) h tk, es.map CEnt.col = colsTo szs S W PP szs.length → (lf :: l :: bulkAds es).Nodup →
      Fr h₀ env.locals h (fun z => if z = Str.ofString "first" then some (.int (firstAt szs PP szs.length) t'') else if cStored.contains z then u z else m₀ z) →
      News h₀ env.locals h ((lf, listOf (refsOf es).toArray n) :: (l, LCg.lst ys) :: bulkOf P es) → Q .next { s with heap := h, toks := tk }) :
    wpAny (model prog w) A (call (.type "enumerate") [.ref l]) (fun xv s₁ => wpAny (model prog w) A (pyIter xv) (fun it s₂ => TurnsAt prog w A h₀ env (.Tuple elts ek ep) body Q E it s₂) E s₁) E s := by
  have N' : News h₀ env.locals s.heap [(lf, listOf #[] n₀), (l, LCg.lst ys)] := fun p hp => N p (by
    simp only [List.mem_cons, List.not_mem_nil, or_false] at hp ⊢
    rcases hp with h | h
    · exact .inr (.inr h)
    · exact .inl h)
  have hlen := hy.length
  refine ktu_enum (lo := LCg.lst ys) (vs := ys) (n := ys.length) hh F N' (List.mem_cons_of_mem _ List.mem_cons_self) rfl rfl rfl fun I hI => ?_
  refine items_ind (ColsJ P lf l ys szs S W PP m₀) ⟨[], n₀, t₀, rfl, rfl, ?_, ?_, fun _ _ _ => rfl⟩ ?_ ?_
  · simp [bulkAds, Ne.symm hne]
  · rw [h1]; simp [firstAt]
  · rintro i a m news v h tk hx hv ⟨es, n, t'', rfl, hc, hnd, hf, hm⟩ F₁
    have hi : i < (enumItems 0 ys).length := by
      rcases Nat.lt_or_ge i (enumItems 0 ys).length with h | h
      · exact h
      · rw [List.getElem?_eq_none h] at hx; cases hx
    rw [enumItems_length, hlen] at hi
    obtain ⟨t', hg⟩ := ints_at hy hi
    rw [enumItems_get ys 0 i hg] at hx
    cases hx
    obtain ⟨T, t, rfl, hT⟩ := hv
    rw [Nat.zero_add] at hT
    rw [fr_one hf hm] at F₁
    refine AllObj.cons fun o ho => AllObj.cons fun o' ho' => AllObj.nil fun N₁ => ?_
    exact turn i es n T t t' t'' m h tk I o o' (hI _ List.mem_cons_self) (hI _ (List.mem_cons_of_mem _ List.mem_cons_self)) hi hc hnd hT F₁ ho ho' N₁
  · rintro m news h tk ⟨es, n, t'', rfl, hc, hnd, hf, hm⟩ F₁ N₁
    rw [enumItems_length, hlen] at hc hf
    rw [fr_one hf hm] at F₁
    exact done es n t'' m h tk hc hnd F₁ N₁

theorem cols_end {P : Params} {lf l I : Addr} {ys : List Value} {szs : List Int} {S W PP : Int} {m₀ m' : Str → Option Value} {i n' : Nat} {es : List CEnt} {L : Addr} {h' : Heap} {tk : Nat} {s₁ : Shared} {all : List (Addr × Obj)} {o o' : Obj} {X : Array Value} (e : CEnt) {t'' : Tok}
    (F : Fr h₀ L h' m') (N : News h₀ L h' all) (h1 : (I + 1, o) ∈ all) (h2 : (I, o') ∈ all) (ho : o.cls = .type "enumerate") (ho' : o'.cls = .type "list_iterator") (h3 : (lf, listOf X n') ∈ all) (hX : X = (refsOf es).toArray.push (.ref e.x)) (h4 : (l, LCg.lst ys) ∈ all)
    (h5 : (e.x, instObj 70 e.d) ∈ all) (h6 : (e.d, e.dict P) ∈ all) (h7 : ∀ p ∈ bulkOf P es, p ∈ all) (hc : es.map CEnt.col = colsTo szs S W PP i) (he : e.col = colAt szs S W PP i) (hnd : (lf :: l :: bulkAds es).Nodup)
    (hb : AllLt e.d (bulkOf P es)) (hlf : lf < e.d) (hl : l < e.d) (hx : e.d < e.x)
    (hf : m' (Str.ofString "first") = some (.int (firstAt szs PP (i + 1)) t'')) (hm : ∀ z, z ≠ Str.ofString "first" → cStored.contains z = false → m' z = m₀ z) :
    UnrEndW h₀ L s₁ [(I + 1, o), (I, o')] (fun m' n' => SubL [(l, LCg.lst ys)] n' ∧ ColsJ P lf l ys szs S W PP m₀ (i + 1) m' n') { s₁ with heap := h', toks := tk } := by
  have hlt : ∀ a ∈ bulkAds es, a < e.d := by
    intro a ha
    rw [← bulk_ads P] at ha
    obtain ⟨p, hp, rfl⟩ := List.mem_map.mp ha
    exact kst_ltOf hb p hp
  have hX' : X = (refsOf (es ++ [e])).toArray := by rw [hX, refs_snoc, List.push_toArray]
  subst hX'
  have mem : ∀ p ∈ (lf, listOf (refsOf (es ++ [e])).toArray n') :: (l, LCg.lst ys) :: bulkOf P (es ++ [e]), p ∈ all ∧ (p.2.cls = .type "list" ∨ p.2.cls = .ref 70 ∨ p.2.cls = .type "dict") := by
    intro p hp
    rcases List.mem_cons.mp hp with rfl | hp
    · exact ⟨h3, .inl rfl⟩
    rcases List.mem_cons.mp hp with rfl | hp
    · exact ⟨h4, .inl rfl⟩
    refine ⟨?_, .inr (bulk_cls hp)⟩
    rw [bulk_snoc] at hp
    rcases List.mem_append.mp hp with hp | hp
    · exact h7 p hp
    rcases List.mem_cons.mp hp with rfl | hp
    · exact h5
    rw [List.mem_singleton.mp hp]; exact h6
  refine ⟨h', tk, m', (lf, listOf (refsOf (es ++ [e])).toArray n') :: (l, LCg.lst ys) :: bulkOf P (es ++ [e]), rfl, F, fun p hp => ?_, fun p hp q hq e' => ?_, ⟨List.mem_cons_of_mem _ List.mem_cons_self, trivial⟩, es ++ [e], n', t'', rfl, ?_, ?_, hf, hm⟩
  · rcases List.mem_append.mp hp with hp | hp
    · rcases List.mem_cons.mp hp with rfl | hp
      · exact N _ h1
      · rw [List.mem_singleton.mp hp]; exact N _ h2
    · exact N _ (mem p hp).1
  · have a1 := (N _ (mem p hp).1).1
    have c1 := (mem p hp).2
    rcases List.mem_cons.mp hq with rfl | hq
    · have a2 := (N _ h1).1
      rw [e', a2] at a1
      cases a1
      rw [ho] at c1
      rcases c1 with c | c | c <;> first | (cases c; done) | exact absurd (Value.type.inj c) (by decide)
    · rw [List.mem_singleton.mp hq] at e'
      have a2 := (N _ h2).1
      rw [e', a2] at a1
      cases a1
      rw [ho'] at c1
      rcases c1 with c | c | c <;> first | (cases c; done) | exact absurd (Value.type.inj c) (by decide)
  · rw [List.map_append, hc, cols_snoc, ← he]; rfl
  · rw [ads_snoc, show lf :: l :: (bulkAds es ++ e.ads) = (lf :: l :: bulkAds es) ++ e.ads from rfl, List.nodup_append]
    refine ⟨hnd, ?_, fun a ha b hb' => ?_⟩
    · simp [CEnt.ads, Nat.ne_of_gt hx]
    · have hb'' : e.d ≤ b := by
        rcases List.mem_cons.mp hb' with rfl | hb'
        · exact Nat.le_of_lt hx
        · rw [List.mem_singleton.mp hb']; exact Nat.le_refl _
      have ha' : a < e.d := by
        rcases List.mem_cons.mp ha with rfl | ha
        · exact hlf
        rcases List.mem_cons.mp ha with rfl | ha
        · exact hl
        exact hlt a ha
      exact Nat.ne_of_lt (Nat.lt_of_lt_of_le ha' hb'')
theorem c_off {z : Str} (h : cStored.contains z = false) : z ≠ Str.ofString "place" ∧ z ≠ Str.ofString "many" ∧ z ≠ Str.ofString "at" ∧ z ≠ Str.ofString "is_parity" := by
  simp only [cStored, List.contains_cons, Bool.or_eq_false_iff, beq_eq_false_iff_ne, ne_eq] at h
  exact ⟨h.1, h.2.1, h.2.2.1, h.2.2.2.1⟩
theorem cols_endX {P : Params} {lf l I x d : Addr} {t1 t2 t3 t4 u1 u2 u3 u4 : Tok} {c r m f : Int} {ys : List Value} {szs : List Int} {S W PP : Int} {m₀ m' : Str → Option Value} {i n' : Nat} {es : List CEnt} {L : Addr} {h' : Heap} {tk : Nat} {s₁ : Shared} {o o' : Obj}
    (F : Fr h₀ L h' m') (N : News h₀ L h' ((x, instObj 70 d) :: (d, colDict P t1 t2 t3 t4 (.int c u1) (.int r u2) (.int m u3) (.int f u4)) :: (I + 1, o) :: (I, o') :: (lf, listOf ((refsOf es).toArray.push (.ref x)) n') :: (l, LCg.lst ys) :: bulkOf P es))
    (ho : o.cls = .type "enumerate") (ho' : o'.cls = .type "list_iterator") (hc : es.map CEnt.col = colsTo szs S W PP i) (he : (c, r, m, f) = colAt szs S W PP i) (hnd : (lf :: l :: bulkAds es).Nodup)
    (hb : I + 1 < d ∧ I < d ∧ lf < d ∧ l < d ∧ AllLt d (bulkOf P es)) (hx : d < x)
    (hf : ∃ t'', m' (Str.ofString "first") = some (.int (firstAt szs PP (i + 1)) t'')) (hm : ∀ z, z ≠ Str.ofString "first" → cStored.contains z = false → m' z = m₀ z) :
    UnrEndW h₀ L s₁ [(I + 1, o), (I, o')] (fun m' n' => SubL [(l, LCg.lst ys)] n' ∧ ColsJ P lf l ys szs S W PP m₀ (i + 1) m' n') { s₁ with heap := h', toks := tk } :=
  cols_end ⟨x, d, t1, t2, t3, t4, u1, u2, u3, u4, c, r, m, f⟩ F N (.tail _ (.tail _ (.head _))) (.tail _ (.tail _ (.tail _ (.head _)))) ho ho' (.tail _ (.tail _ (.tail _ (.tail _ (.head _))))) rfl (.tail _ (.tail _ (.tail _ (.tail _ (.tail _ (.head _))))))
    (.head _) (.tail _ (.head _)) (fun p hp => .tail _ (.tail _ (.tail _ (.tail _ (.tail _ (.tail _ hp)))))) hc he hnd hb.2.2.2.2 hb.2.2.1 hb.2.2.2.1 hx hf.choose_spec hm
end
end

/-! ## part Paint -/
section
local macro_rules | `(tactic| walk_at "no such place") => `(tactic| skip)
local macro_rules | `(tactic| walk_at "no such place") => `(tactic| skip)
local macro_rules | `(tactic| walk_at "no such place") => `(tactic| skip)
theorem top_off_Paint : True := by
  w_top off
  trivial
section
variable {prog : Program} {w : World} {A : Around} {E : Value → Shared → Prop} {s : Shared} {env : Env} {h₀ : Heap} {x : Str} {px : Pos} {body : List Stmt} {Q : Flow → Shared → Prop}
noncomputable def rangeItems (a : Int) (n : Nat) : List Itm := (List.range n).map fun (i : Nat) => Itm.tok fun t => .int (a + (i : Int)) t
/-- a loop over a range of any length, turn by turn -/
theorem range_turns {r : Addr} {a b : Int} {t u v : Tok} {n : Nat} {m₀ : Str → Option Value} {news : List (Addr × Obj)}
    (hh : A.handled = none) (hr : IsRange s.heap r a b 1 t u v) (hsmall : Builtin.Range.small a b 1 = true) (hn : Builtin.Range.rangeSize a b 1 = (n : Int)) (F : Fr h₀ env.locals s.heap m₀) (N : News h₀ env.locals s.heap news)
    (rest₀ : ∀ I : Addr, (∀ p ∈ news, p.1 < I) → ItemsRest prog w A E h₀ env (.Name x px) body Q s [(I, "range_iterator")] [] (rangeItems a n) m₀ news) :
    wpAny (model prog w) A (pyIter (.ref r)) (fun it s₂ => TurnsAt prog w A h₀ env (.Name x px) body Q E it s₂) E s := by
  refine wpAny_pyIter_range hr hsmall ?_
  have W : Walks prog w A s.heap.objs.size [s.heap.objs.size] [s.heap.objs.size] n (fun i v => i < n ∧ ∃ t, v = .int (a + i * 1) t)
      (fun i h => IsRangeIter h s.heap.objs.size (a + (i : Nat) * 1) ((n : Int) - (i : Nat)) 1) := (Walks.range hh _ a 1 n).bound
  refine ktu_core (tk0 := s.toks) (keep := []) (KTurns.ofWalks W fun i v s Q E _ q => wpAny_pure q) (by simp [rangeItems]) (fun i v h hp => ?_) (fun i h st => ?_) (fun b hb => ?_) (fun b hb => by simpa using hb) (fun b hb => ?_) ?_ (fun p hp hI => ?_) ?_ (F.push _) (fun p hp => ⟨Heap.get?_push_of_some _ (N p hp).1, (N p hp).2⟩) trivial (rest₀ _ fun p hp => Heap.lt_size (N p hp).1)
  · obtain ⟨hi, t, rfl⟩ := hp
    refine ⟨Itm.tok fun t => .int (a + (i : Int)) t, by simp [rangeItems, hi], t, ?_⟩
    rw [Int.mul_one]
  · have st' : h.get? s.heap.objs.size = some _ := st
    exact ⟨[(s.heap.objs.size, _)], ⟨⟨rfl, rfl⟩, trivial⟩, fun p hp => by rw [List.mem_singleton.mp hp]; exact st'⟩
  · have hb' : b = s.heap.objs.size := by simpa using hb
    rw [hb']
    exact ⟨List.mem_cons_self .., next_is_new F⟩
  · have hb' : b = s.heap.objs.size := by simpa using hb
    exact .inl (by simp [hb'])
  · intro hI
    exact absurd F.ns.lt ((List.mem_singleton.mp hI) ▸ Nat.lt_irrefl _)
  · exact absurd (Heap.lt_size (N p hp).1) ((List.mem_singleton.mp hI) ▸ Nat.lt_irrefl _)
  · show IsRangeIter _ _ _ _ _
    rw [hn]
    simpa using Heap.get?_push_size _ rfl
end
/-- a painted column: an inner list of four ints -/
structure PEnt where
  a : Addr
  n : Nat
  u1 : Tok
  u2 : Tok
  u3 : Tok
  u4 : Tok
  c : Int
  r : Int
  m : Int
  f : Int
noncomputable abbrev pList (c r m f : Value) (n : Nat) : Obj := listOf [c, r, m, f].toArray n
noncomputable def PEnt.obj (e : PEnt) : Addr × Obj := (e.a, pList (.int e.c e.u1) (.int e.r e.u2) (.int e.m e.u3) (.int e.f e.u4) e.n)
noncomputable def PEnt.col (e : PEnt) : Int × Int × Int × Int := (e.c, e.r, e.m, e.f)
noncomputable def bulkP (es : List PEnt) : List (Addr × Obj) := es.map PEnt.obj
noncomputable def adsP (es : List PEnt) : List Addr := es.map PEnt.a
noncomputable def refsP (es : List PEnt) : List Value := es.map fun e => .ref e.a
theorem bulkP_ads (es : List PEnt) : (bulkP es).map (·.1) = adsP es := by simp [bulkP, adsP, PEnt.obj]
theorem bulkP_cls {es : List PEnt} {p : Addr × Obj} (h : p ∈ bulkP es) : p.2.cls = .type "list" := by
  obtain ⟨e, _, rfl⟩ := List.mem_map.mp h
  rfl
theorem offP {a : Addr} {es : List PEnt} (h : a ∉ adsP es) : ∀ p ∈ bulkP es, p.1 ≠ a := by
  intro p hp e
  exact h (by rw [← bulkP_ads, ← e]; exact List.mem_map.mpr ⟨p, hp, rfl⟩)
/-- the columns when i sectors have been painted -/
noncomputable def paintAt (S W : Int) (i k : Nat) : Int × Int × Int × Int := ((S + (k : Int)).fmod W, (S + (k : Int)).fdiv W, (((i + W.toNat - 1 - k) / W.toNat : Nat) : Int), -1)
noncomputable def paint (S W : Int) (i : Nat) : List (Int × Int × Int × Int) := (List.range (min i W.toNat)).map (paintAt S W i)
noncomputable abbrev pStored : List Str := [Str.ofString "step"]
noncomputable def PaintJ (lf : Addr) (S W : Int) (m₀ : Str → Option Value) (i : Nat) (m : Str → Option Value) (news : List (Addr × Obj)) : Prop :=
  ∃ es n, news = (lf, listOf (refsP es).toArray n) :: bulkP es ∧ es.map PEnt.col = paint S W i ∧ (lf :: adsP es).Nodup ∧ ∀ z, pStored.contains z = false → m z = m₀ z
theorem fr_none {m m₀ : Str → Option Value} {stored : List Str} (h2 : ∀ z, stored.contains z = false → m z = m₀ z) : m = fun z => if stored.contains z then m z else m₀ z := by
  funext z
  cases h3 : stored.contains z with
  | true => simp
  | false => simp only [Bool.false_eq_true, if_false]; exact h2 z h3
theorem paint_new {S W : Int} {i : Nat} (h : (i : Int) < W) : paint S W (i + 1) = paint S W i ++ [((S + (i : Int)).fmod W, (S + (i : Int)).fdiv W, 1, -1)] := by
  have hw : i < W.toNat := by omega
  unfold paint
  rw [Nat.min_eq_left (by omega), Nat.min_eq_left (by omega), List.range_succ, List.map_append]
  congr 1
  · refine List.map_congr_left fun k hk => ?_
    have hk := List.mem_range.mp hk
    unfold paintAt
    rw [show (i + 1 + W.toNat - 1 - k) / W.toNat = 1 from Nat.div_eq_of_lt_le (by omega) (by omega), show (i + W.toNat - 1 - k) / W.toNat = 1 from Nat.div_eq_of_lt_le (by omega) (by omega)]
  · simp only [List.map_cons, List.map_nil, paintAt]
    rw [show (i + 1 + W.toNat - 1 - i) / W.toNat = 1 from Nat.div_eq_of_lt_le (by omega) (by omega)]
    rfl
theorem div_step {i w k : Nat} (hk : k < w) : (i + 1 + w - 1 - k) / w = (i + w - 1 - k) / w + if i % w = k then 1 else 0 := by
  have h1 : i + 1 + w - 1 - k = (i + w - 1 - k) + 1 := by omega
  rw [h1, Nat.succ_div]
  congr 1
  have e : w ∣ (i + w - 1 - k) + 1 ↔ i % w = k := by
    rw [← h1]
    have h2 : i + 1 + w - 1 - k = i + w - k := by omega
    rw [h2]
    constructor
    · rintro ⟨c, hc⟩
      have h3 : i + w = k + w * c := by omega
      have h4 : (i + w) % w = k % w := by rw [h3, Nat.add_mul_mod_self_left]
      rw [Nat.add_mod_right, Nat.mod_eq_of_lt hk] at h4
      exact h4
    · intro h3
      refine ⟨i / w + 1, ?_⟩
      have h4 := Nat.div_add_mod i w
      rw [h3] at h4
      rw [Nat.mul_add, Nat.mul_one]
      omega
  simp only [e]
/-- one count more at the column that a sector falls to -/
noncomputable def bump : Int × Int × Int × Int → Int × Int × Int × Int := fun p => (p.1, p.2.1, p.2.2.1 + 1, p.2.2.2)
theorem paint_old {S W : Int} {i : Nat} (hw : 0 < W) (h : W ≤ (i : Int)) : paint S W (i + 1) = (paint S W i).modify (i % W.toNat) bump := by
  have hw' : 0 < W.toNat := by omega
  have hj := Nat.mod_lt i hw'
  unfold paint
  rw [Nat.min_eq_right (by omega), Nat.min_eq_right (by omega)]
  apply List.ext_getElem
  · simp
  · intro k h1 h2
    have hk : k < W.toNat := by simpa using h1
    rw [List.getElem_modify]
    simp only [List.getElem_map, List.getElem_range]
    unfold paintAt
    rw [div_step hk]
    by_cases e : i % W.toNat = k
    · rw [if_pos e, if_pos e]; simp [bump]
    · rw [if_neg e, if_neg e]; rfl
theorem paint_len {S W : Int} {i : Nat} {es : List PEnt} (h : es.map PEnt.col = paint S W i) : es.length = min i W.toNat := by
  have := congrArg List.length h
  simpa [paint] using this
theorem split_at {es : List PEnt} {j : Nat} (h : j < es.length) : ∃ e1 e e2, es = e1 ++ e :: e2 ∧ e1.length = j :=
  ⟨es.take j, es[j], es.drop (j + 1), by rw [← List.drop_eq_getElem_cons h, List.take_append_drop], by rw [List.length_take]; omega⟩
theorem refsP_len (es : List PEnt) : (refsP es).length = es.length := by simp [refsP]
theorem bulkP_app (a b : List PEnt) : bulkP (a ++ b) = bulkP a ++ bulkP b := by simp [bulkP]
theorem refsP_app (a b : List PEnt) : refsP (a ++ b) = refsP a ++ refsP b := by simp [refsP]
theorem adsP_app (a b : List PEnt) : adsP (a ++ b) = adsP a ++ adsP b := by simp [adsP]
section
variable {prog : Program} {w : World} {A : Around} {E : Value → Shared → Prop} {s : Shared} {env : Env} {h₀ : Heap} {x : Str} {px : Pos} {body : List Stmt} {Q : Flow → Shared → Prop}
/-- the loop that paints, by what stands between its turns: a new column, or one more sector beneath an elder one -/
theorem paint_loop {r lf : Addr} {b : Int} {t u v : Tok} {S W : Int} {n n₀ : Nat} {m₀ : Str → Option Value} {news : List (Addr × Obj)} (hh : A.handled = none) (hr : IsRange s.heap r 0 b 1 t u v) (hsmall : Builtin.Range.small 0 b 1 = true) (hn : Builtin.Range.rangeSize 0 b 1 = (n : Int))
    (F : Fr h₀ env.locals s.heap m₀) (N : News h₀ env.locals s.heap news) (hlf : (lf, listOf #[] n₀) ∈ news) (hW : 0 < W)
    (turnA : ∀ (i : Nat) es n' (t : Tok) (u : Str → Option Value) h tk I (o : Obj), i < n → (i : Int) < W → es.length = i → es.map PEnt.col = paint S W i → (lf :: adsP es).Nodup → @LT.lt Nat _ lf I →
      Fr h₀ env.locals h (fun z => if pStored.contains z then u z else m₀ z) → o.cls = .type "range_iterator" → News h₀ env.locals h ((I, o) :: (lf, listOf (refsP es).toArray n') :: bulkP es) →
      wpAny (model prog w) A (assign (.Name x px) env (.int (i : Int) t)) (fun _ s₂ => wpAny (model prog w) A (execs body env)
        (UnrPostW h₀ env.locals { s with heap := h, toks := tk } [(I, o)] (fun m' n' => SubL [] n' ∧ PaintJ lf S W m₀ (i + 1) m' n') Q) E s₂) E { s with heap := h, toks := tk })
    (turnB : ∀ (i : Nat) e1 e e2 n' (t : Tok) (u : Str → Option Value) h tk I (o : Obj), i < n → W ≤ (i : Int) → e1.length = i % W.toNat → (e1 ++ e :: e2).map PEnt.col = paint S W i → (lf :: adsP (e1 ++ e :: e2)).Nodup → @LT.lt Nat _ lf I →
      Fr h₀ env.locals h (fun z => if pStored.contains z then u z else m₀ z) → o.cls = .type "range_iterator" → News h₀ env.locals h ((I, o) :: (lf, listOf (refsP (e1 ++ e :: e2)).toArray n') :: e.obj :: (bulkP e1 ++ bulkP e2)) →
      wpAny (model prog w) A (assign (.Name x px) env (.int (i : Int) t)) (fun _ s₂ => wpAny (model prog w) A (execs body env)
        (UnrPostW h₀ env.locals { s with heap := h, toks := tk } [(I, o)] (fun m' n' => SubL [] n' ∧ PaintJ lf S W m₀ (i + 1) m' n') Q) E s₂) E { s with heap := h, toks := tk })
    (done : ∀ es n' (u : Str → Option Value) h tk, es.map PEnt.col = paint S W n → (lf :: adsP es).Nodup → Fr h₀ env.locals h (fun z => if pStored.contains z then u z else m₀ z) → News h₀ env.locals h ((lf, listOf (refsP es).toArray n') :: bulkP es) → Q .next { s with heap := h, toks := tk }) :
    wpAny (model prog w) A (pyIter (.ref r)) (fun it s₂ => TurnsAt prog w A h₀ env (.Name x px) body Q E it s₂) E s := by
  have N' : News h₀ env.locals s.heap [(lf, listOf #[] n₀)] := fun p hp => N p (by rw [List.mem_singleton.mp hp]; exact hlf)
  refine range_turns hh hr hsmall hn F N' fun I hI => ?_
  refine items_ind (PaintJ lf S W m₀) ⟨[], n₀, rfl, ?_, by simp [adsP], fun _ _ => rfl⟩ ?_ ?_
  · simp [paint]
  · rintro i a m news v h tk hx hv ⟨es, n', rfl, hc, hnd, hm⟩ F₁
    have hi : i < n := by
      rcases Nat.lt_or_ge i n with h | h
      · exact h
      · rw [List.getElem?_eq_none (by simpa [rangeItems] using h)] at hx; cases hx
    have hx' : (rangeItems 0 n)[i]? = some (Itm.tok fun t => .int (0 + (i : Int)) t) := by simp [rangeItems, hi]
    rw [hx'] at hx
    cases hx
    obtain ⟨t, rfl⟩ := hv
    rw [fr_none hm] at F₁
    have hlen := paint_len hc
    refine AllObj.cons fun o ho => AllObj.nil fun N₁ => ?_
    dsimp only
    rw [Int.zero_add]
    by_cases hlt : (i : Int) < W
    · exact turnA i es n' t m h tk I o hi hlt (by omega) hc hnd (hI _ List.mem_cons_self) F₁ ho N₁
    · have hj := Nat.mod_lt i (show 0 < W.toNat by omega)
      obtain ⟨e1, e, e2, rfl, hl⟩ := split_at (es := es) (j := i % W.toNat) (by omega)
      refine turnB i e1 e e2 n' t m h tk I o hi (by omega) hl hc hnd (hI _ List.mem_cons_self) F₁ ho fun p hp => N₁ p ?_
      rw [bulkP_app]
      rcases List.mem_cons.mp hp with rfl | hp
      · exact .head _
      rcases List.mem_cons.mp hp with rfl | hp
      · exact .tail _ (.head _)
      refine .tail _ (.tail _ ?_)
      rcases List.mem_cons.mp hp with rfl | hp
      · exact List.mem_append.mpr (.inr List.mem_cons_self)
      rcases List.mem_append.mp hp with hp | hp
      · exact List.mem_append.mpr (.inl hp)
      · exact List.mem_append.mpr (.inr (List.mem_cons_of_mem _ hp))
  · rintro m news h tk ⟨es, n', rfl, hc, hnd, hm⟩ F₁ N₁
    rw [show (rangeItems 0 n).length = n by simp [rangeItems]] at hc
    rw [fr_none hm] at F₁
    exact done es n' m h tk hc hnd F₁ N₁

theorem paint_its {lf I : Addr} {o : Obj} {n' : Nat} {es : List PEnt} {L : Addr} {h' : Heap} {all : List (Addr × Obj)} (N : News h₀ L h' all) (h1 : (I, o) ∈ all) (ho : o.cls = .type "range_iterator") (h2 : (lf, listOf (refsP es).toArray n') ∈ all) (h3 : ∀ p ∈ bulkP es, p ∈ all) :
    News h₀ L h' ([(I, o)] ++ ((lf, listOf (refsP es).toArray n') :: bulkP es)) ∧ ∀ p ∈ (lf, listOf (refsP es).toArray n') :: bulkP es, ∀ q ∈ [(I, o)], p.1 ≠ q.1 := by
  have mem : ∀ p ∈ (lf, listOf (refsP es).toArray n') :: bulkP es, p ∈ all ∧ p.2.cls = .type "list" := by
    intro p hp
    rcases List.mem_cons.mp hp with rfl | hp
    · exact ⟨h2, rfl⟩
    · exact ⟨h3 p hp, bulkP_cls hp⟩
  refine ⟨fun p hp => ?_, fun p hp q hq e => ?_⟩
  · rcases List.mem_append.mp hp with hp | hp
    · rw [List.mem_singleton.mp hp]; exact N _ h1
    · exact N _ (mem p hp).1
  · have a1 := (N _ (mem p hp).1).1
    have c1 := (mem p hp).2
    rw [List.mem_singleton.mp hq] at e
    have a2 := (N _ h1).1
    rw [e, a2] at a1
    cases a1
    rw [ho] at c1
    exact absurd (Value.type.inj c1) (by decide)
theorem p_off {z : Str} (h : pStored.contains z = false) : z ≠ Str.ofString "step" := by
  simp only [pStored, List.contains_cons, Bool.or_eq_false_iff, beq_eq_false_iff_ne, ne_eq] at h
  exact h.1
/-- a turn's end: a new column -/
theorem paint_endA {lf I a : Addr} {S W : Int} {u1 u2 u3 u4 : Tok} {m₀ m' : Str → Option Value} {i n' k : Nat} {c r : Int} {es : List PEnt} {L : Addr} {h' : Heap} {tk : Nat} {s₁ : Shared} {o : Obj}
    (F : Fr h₀ L h' m') (N : News h₀ L h' ((a, pList (.int c u1) (.int r u2) (.int 1 u3) (.int (-1) u4) k) :: (I, o) :: (lf, listOf (refsP es ++ [Value.ref a]).toArray n') :: bulkP es)) (ho : o.cls = .type "range_iterator")
    (hi : (i : Int) < W) (hc : es.map PEnt.col = paint S W i) (hc1 : c = (S + (i : Int)).fmod W) (hc2 : r = (S + (i : Int)).fdiv W) (hnd : (lf :: adsP es).Nodup) (ha : I < a ∧ lf < a ∧ AllLt a (bulkP es)) (hm : ∀ z, pStored.contains z = false → m' z = m₀ z) :
    UnrEndW h₀ L s₁ [(I, o)] (fun m' n' => SubL [] n' ∧ PaintJ lf S W m₀ (i + 1) m' n') { s₁ with heap := h', toks := tk } := by
  subst hc1
  subst hc2
  let e : PEnt := ⟨a, k, u1, u2, u3, u4, (S + (i : Int)).fmod W, (S + (i : Int)).fdiv W, 1, -1⟩
  have hr : refsP es ++ [.ref a] = refsP (es ++ [e]) := by rw [refsP_app]; rfl
  rw [hr] at N
  have X := paint_its (lf := lf) (I := I) (o := o) (n' := n') (es := es ++ [e]) N (.tail _ (.head _)) ho (.tail _ (.tail _ (.head _))) (fun p hp => by
    rw [bulkP_app] at hp
    rcases List.mem_append.mp hp with hp | hp
    · exact .tail _ (.tail _ (.tail _ hp))
    · rw [List.mem_singleton.mp hp]; exact .head _)
  refine ⟨h', tk, m', _, rfl, F, X.1, X.2, trivial, es ++ [e], n', rfl, ?_, ?_, hm⟩
  · rw [List.map_append, hc, paint_new hi]; rfl
  · rw [adsP_app, show lf :: (adsP es ++ adsP [e]) = (lf :: adsP es) ++ [a] from rfl, List.nodup_append]
    refine ⟨hnd, by simp, fun b hb d hd => ?_⟩
    rw [List.mem_singleton.mp hd]
    rcases List.mem_cons.mp hb with rfl | hb
    · exact Nat.ne_of_lt ha.2.1
    · rw [← bulkP_ads] at hb
      obtain ⟨p, hp, rfl⟩ := List.mem_map.mp hb
      exact Nat.ne_of_lt (kst_ltOf ha.2.2 p hp)
theorem modify_mid {α : Type} (f : α → α) : ∀ (a : List α) (x : α) (b : List α), (a ++ x :: b).modify a.length f = a ++ f x :: b
  | [], x, b => rfl
  | y :: a, x, b => by
    rw [List.cons_append, List.length_cons, List.modify_succ_cons, modify_mid f a x b]; rfl
/-- a turn's end: one sector more beneath an elder one -/
theorem paint_endB {lf I : Addr} {S W : Int} {u3 : Tok} {m₀ m' : Str → Option Value} {i n' k : Nat} {e1 e2 : List PEnt} {e : PEnt} {L : Addr} {h' : Heap} {tk : Nat} {s₁ : Shared} {o : Obj}
    (F : Fr h₀ L h' m') (N : News h₀ L h' ((I, o) :: (lf, listOf (refsP (e1 ++ e :: e2)).toArray n') :: (e.a, pList (.int e.c e.u1) (.int e.r e.u2) (.int (e.m + 1) u3) (.int e.f e.u4) k) :: (bulkP e1 ++ bulkP e2))) (ho : o.cls = .type "range_iterator")
    (hW : 0 < W) (hi : W ≤ (i : Int)) (hl : e1.length = i % W.toNat) (hc : (e1 ++ e :: e2).map PEnt.col = paint S W i) (hnd : (lf :: adsP (e1 ++ e :: e2)).Nodup) (hm : ∀ z, pStored.contains z = false → m' z = m₀ z) :
    UnrEndW h₀ L s₁ [(I, o)] (fun m' n' => SubL [] n' ∧ PaintJ lf S W m₀ (i + 1) m' n') { s₁ with heap := h', toks := tk } := by
  let e' : PEnt := { e with n := k, u3 := u3, m := e.m + 1 }
  have hr : refsP (e1 ++ e :: e2) = refsP (e1 ++ e' :: e2) := by rw [refsP_app, refsP_app]; rfl
  have hd : adsP (e1 ++ e :: e2) = adsP (e1 ++ e' :: e2) := by rw [adsP_app, adsP_app]; rfl
  rw [hr] at N
  rw [hd] at hnd
  have X := paint_its (lf := lf) (I := I) (o := o) (n' := n') (es := e1 ++ e' :: e2) N (.head _) ho (.tail _ (.head _)) (fun p hp => by
    rw [bulkP_app] at hp
    refine .tail _ (.tail _ ?_)
    rcases List.mem_append.mp hp with hp | hp
    · exact .tail _ (List.mem_append.mpr (.inl hp))
    · rcases List.mem_cons.mp hp with rfl | hp
      · exact .head _
      · exact .tail _ (List.mem_append.mpr (.inr hp)))
  refine ⟨h', tk, m', _, rfl, F, X.1, X.2, trivial, e1 ++ e' :: e2, n', rfl, ?_, hnd, hm⟩
  have key := modify_mid bump (e1.map PEnt.col) e.col (e2.map PEnt.col)
  rw [List.length_map] at key
  rw [paint_old hW hi, ← hc, ← hl, show (e1 ++ e :: e2).map PEnt.col = e1.map PEnt.col ++ e.col :: e2.map PEnt.col by simp, key, List.map_append]
  rfl
theorem news_ne {h₀ h : Heap} {L a b : Addr} {o o' : Obj} {news : List (Addr × Obj)} (N : News h₀ L h news) (h1 : (a, o) ∈ news) (h2 : (b, o') ∈ news) (hc : o.cls ≠ o'.cls) : @Ne Nat a b := by
  intro e
  subst e
  have a1 := (N _ h1).1
  have a2 := (N _ h2).1
  rw [a1] at a2
  cases a2
  exact hc rfl
theorem off_mid {lf : Addr} {e1 e2 : List PEnt} {e : PEnt} (h : (lf :: (adsP e1 ++ adsP (e :: e2))).Nodup) : @Ne Nat lf e.a ∧ ∀ p ∈ bulkP e1 ++ bulkP e2, p.1 ≠ e.a := by
  obtain ⟨h1, h2⟩ := List.nodup_cons.mp h
  rw [List.nodup_append] at h2
  obtain ⟨_, h4, h5⟩ := h2
  have h6 : e.a ∉ adsP e2 := (List.nodup_cons.mp h4).1
  refine ⟨fun q => h1 (q ▸ List.mem_append.mpr (.inr List.mem_cons_self)), fun p hp q => ?_⟩
  rcases List.mem_append.mp hp with hp | hp
  · exact h5 p.1 (by rw [← bulkP_ads]; exact List.mem_map.mpr ⟨p, hp, rfl⟩) e.a List.mem_cons_self q
  · exact offP h6 p hp q
/-- the item that was laid last -/
theorem p_tailA {value slice : PySem.Expr} {news : List (Addr × Obj)} {L l : Addr} {xs : List Value} {c : Nat} {k : Int} {u : Tok} {v : Value} {Q : Value → Shared → Prop} (N : News h₀ L s.heap news) (hm : (l, listOf (xs ++ [v]).toArray c) ∈ news)
    (h0 : 0 ≤ k) (hhi : k < 2 ^ 63) (hk : k.toNat = xs.length) (h : Q v s)
    (hs : subscripted slice false (.ref l) (.int k u) = operate [.ref l, .int k u] (getItem (.ref l) (.int k u)) := by with_unfolding_all rfl) :
    wpAny (model prog w) A (subscriptTail value slice (.ref l) (.int k u)) Q E s := by
  have hl : s.heap.IsList l (xs ++ [v]).toArray := ⟨_, (N _ hm).1, rfl, c, rfl⟩
  exact tail_any hl.typeIs slot_list_getitem.lookup (wpAny_getItem_list hl h0 hhi (by rw [hk]; simp) h) hs
/-- the item in the midst -/
theorem p_tailB {value slice : PySem.Expr} {news : List (Addr × Obj)} {L l : Addr} {e1 e2 : List PEnt} {e : PEnt} {c : Nat} {k : Int} {u : Tok} {Q : Value → Shared → Prop} (N : News h₀ L s.heap news) (hm : (l, listOf (refsP (e1 ++ e :: e2)).toArray c) ∈ news)
    (h0 : 0 ≤ k) (hhi : k < 2 ^ 63) (hk : k.toNat = e1.length) (h : Q (.ref e.a) s)
    (hs : subscripted slice false (.ref l) (.int k u) = operate [.ref l, .int k u] (getItem (.ref l) (.int k u)) := by with_unfolding_all rfl) :
    wpAny (model prog w) A (subscriptTail value slice (.ref l) (.int k u)) Q E s := by
  have hl : s.heap.IsList l (refsP (e1 ++ e :: e2)).toArray := ⟨_, (N _ hm).1, rfl, c, rfl⟩
  exact tail_any hl.typeIs slot_list_getitem.lookup (wpAny_getItem_list hl h0 hhi (by rw [hk]; simp [refsP]) h) hs
end
end

/-! ## part Fill -/
section
local macro_rules | `(tactic| walk_at "no such place") => `(tactic| skip)
local macro_rules | `(tactic| walk_at "no such place") => `(tactic| skip)
local macro_rules | `(tactic| walk_at "no such place") => `(tactic| skip)
local macro_rules | `(tactic| walk_at "no such place") => `(tactic| skip)
theorem top_off_Fill : True := by
  w_top off
  trivial
noncomputable abbrev Col4 := Int × Int × Int × Int
noncomputable def manyOf (cs : List Col4) : List Int := cs.map fun p => p.2.2.1
noncomputable def fillAt (cs : List Col4) (PP : Int) (i k : Nat) : Col4 :=
  ((cs.getD k (0, 0, 0, 0)).1, (cs.getD k (0, 0, 0, 0)).2.1, (cs.getD k (0, 0, 0, 0)).2.2.1, if PP.toNat ≤ k ∧ k < PP.toNat + i then firstAt (manyOf cs) PP k else (cs.getD k (0, 0, 0, 0)).2.2.2)
noncomputable def fill (cs : List Col4) (PP : Int) (i : Nat) : List Col4 := (List.range cs.length).map (fillAt cs PP i)
noncomputable def setFirst (f : Int) : Col4 → Col4 := fun p => (p.1, p.2.1, p.2.2.1, f)
theorem fill_zero (cs : List Col4) (PP : Int) : fill cs PP 0 = cs := by
  unfold fill
  apply List.ext_getElem
  · simp
  · intro k h1 h2
    simp only [List.getElem_map, List.getElem_range]
    unfold fillAt
    rw [if_neg (by omega)]
    simp [List.getD, h2]
theorem fill_len (cs : List Col4) (PP : Int) (i : Nat) : (fill cs PP i).length = cs.length := by simp [fill]
theorem fill_step {cs : List Col4} {PP : Int} {i : Nat} : fill cs PP (i + 1) = (fill cs PP i).modify (PP.toNat + i) (setFirst (firstAt (manyOf cs) PP (PP.toNat + i))) := by
  unfold fill
  apply List.ext_getElem
  · simp
  · intro k h1 h2
    rw [List.getElem_modify]
    simp only [List.getElem_map, List.getElem_range]
    unfold fillAt
    by_cases e : PP.toNat + i = k
    · rw [if_pos e, if_pos (by omega), e]; rfl
    · rw [if_neg e]
      by_cases h : PP.toNat ≤ k ∧ k < PP.toNat + i
      · rw [if_pos h, if_pos (by omega)]
      · rw [if_neg h, if_neg (by omega)]
theorem fill_many {cs : List Col4} {PP : Int} {i : Nat} : manyOf (fill cs PP i) = manyOf cs := by
  unfold manyOf fill
  rw [List.map_map]
  apply List.ext_getElem
  · simp
  · intro k h1 h2
    have h3 : k < cs.length := by simpa using h2
    simp [fillAt, List.getD, h3]
noncomputable abbrev fStored : List Str := [Str.ofString "column"]
noncomputable def FillJ (lf l2 : Addr) (o2 : Obj) (as : List Addr) (cs : List Col4) (PP : Int) (m₀ : Str → Option Value) (i : Nat) (m : Str → Option Value) (news : List (Addr × Obj)) : Prop :=
  ∃ es n t, news = (l2, o2) :: (lf, listOf (refsP es).toArray n) :: bulkP es ∧ es.map PEnt.col = fill cs PP i ∧ adsP es = as ∧
    m (Str.ofString "first") = some (.int (firstAt (manyOf cs) PP (PP.toNat + i)) t) ∧ ∀ z, z ≠ Str.ofString "first" → fStored.contains z = false → m z = m₀ z
theorem f_off {z : Str} (h : fStored.contains z = false) : z ≠ Str.ofString "column" := by
  simp only [fStored, List.contains_cons, Bool.or_eq_false_iff, beq_eq_false_iff_ne, ne_eq] at h
  exact h.1
theorem refsP_ads (es : List PEnt) : refsP es = (adsP es).map .ref := by simp [refsP, adsP]
theorem ads_lt {d a : Addr} {es : List PEnt} (h : AllLt d (bulkP es)) (ha : a ∈ adsP es) : @LT.lt Nat _ a d := by
  rw [← bulkP_ads] at ha
  obtain ⟨p, hp, rfl⟩ := List.mem_map.mp ha
  exact kst_ltOf h p hp
theorem firstAt_self (ms : List Int) (PP : Int) : firstAt ms PP PP.toNat = 0 := by
  unfold firstAt
  rw [List.drop_eq_nil_of_le (by rw [List.length_take]; omega)]
  rfl
section
variable {prog : Program} {w : World} {A : Around} {E : Value → Shared → Prop} {s : Shared} {env : Env} {h₀ : Heap} {L : Addr} {m : Str → Option Value} {x : Str} {px : Pos} {body : List Stmt} {Q : Flow → Shared → Prop}
/-- a slice of a list, from a place that may lie beyond it -/
theorem p_slice {value slice : PySem.Expr} {l : Addr} {xs : List Value} {k : Int} {t : Tok} {news : List (Addr × Obj)} {Q : Value → Shared → Prop} (F : Fr h₀ L s.heap m) (N : News h₀ L s.heap news) (hl : s.heap.IsList l xs.toArray) (hk : 0 ≤ k)
    (h : ∀ D h', Fr h₀ L h' m → News h₀ L h' ((D, listOf (xs.drop k.toNat).toArray 0) :: news) → (∀ p ∈ news, p.1 < D) → Q (.ref D) { s with heap := h' })
    (hs : subscripted slice false (.ref l) (.ref s.heap.objs.size) = operate [.ref s.heap.objs.size, .ref l] (getItem (.ref l) (.ref s.heap.objs.size))) (ht : ∀ r, letTemporaryGo value (.ref l) r = pure ()) (hz : xs.toArray.size ≤ sizeLine) :
    wpAny (model prog w) A (subscriptTail value slice (.ref l) (.ref s.heap.objs.size)) Q E { s with heap := s.heap.push { cls := .type "slice", data := .fields #[.int k t, .none, .none] } } :=
  kmk_slice_lit F N hl (.int k t) .none (by
    rw [← Int.toNat_of_nonneg hk, slicePick_from']
    simp
    omega) h hs ht hz

/-- the loop that fills in the first ones -/
theorem fill_loop {lf l2 : Addr} {n n₂ : Nat} {m₀ : Str → Option Value} {es : List PEnt} {cs : List Col4} {PP : Int} {t₀ : Tok} (hh : A.handled = none) (F : Fr h₀ env.locals s.heap m₀)
    (N : News h₀ env.locals s.heap ((l2, listOf ((refsP es).drop PP.toNat).toArray n₂) :: (lf, listOf (refsP es).toArray n) :: bulkP es)) (hc : es.map PEnt.col = cs) (h1 : m₀ (Str.ofString "first") = some (.int 0 t₀)) (hnd : (lf :: adsP es).Nodup)
    (turn : ∀ (i : Nat) e1 e e2 n' (t'' : Tok) (u : Str → Option Value) h tk I (o : Obj), PP.toNat + i < cs.length → e1.length = PP.toNat + i → (e1 ++ e :: e2).map PEnt.col = fill cs PP i → adsP (e1 ++ e :: e2) = adsP es → @LT.lt Nat _ lf I → @LT.lt Nat _ l2 I →
      Fr h₀ env.locals h (fun z => if z = Str.ofString "first" then some (.int (firstAt (manyOf cs) PP (PP.toNat + i)) t'') else if fStored.contains z then u z else m₀ z) → o.cls = .type "list_iterator" →
      News h₀ env.locals h ((I, o) :: (l2, listOf ((refsP es).drop PP.toNat).toArray n₂) :: (lf, listOf (refsP (e1 ++ e :: e2)).toArray n') :: e.obj :: (bulkP e1 ++ bulkP e2)) →
      wpAny (model prog w) A (assign (.Name x px) env (.ref e.a)) (fun _ s₂ => wpAny (model prog w) A (execs body env)
        (UnrPostW h₀ env.locals { s with heap := h, toks := tk } [(I, o)] (fun m' n' => SubL [(l2, listOf ((refsP es).drop PP.toNat).toArray n₂)] n' ∧ FillJ lf l2 (listOf ((refsP es).drop PP.toNat).toArray n₂) (adsP es) cs PP m₀ (i + 1) m' n') Q) E s₂) E { s with heap := h, toks := tk })
    (done : ∀ es' n' (t'' : Tok) (u : Str → Option Value) h tk, es'.map PEnt.col = fill cs PP (cs.length - PP.toNat) → adsP es' = adsP es →
      Fr h₀ env.locals h (fun z => if z = Str.ofString "first" then some (.int (firstAt (manyOf cs) PP (PP.toNat + (cs.length - PP.toNat))) t'') else if fStored.contains z then u z else m₀ z) →
      News h₀ env.locals h ((l2, listOf ((refsP es).drop PP.toNat).toArray n₂) :: (lf, listOf (refsP es').toArray n') :: bulkP es') → Q .next { s with heap := h, toks := tk }) :
    wpAny (model prog w) A (pyIter (.ref l2)) (fun it s₂ => TurnsAt prog w A h₀ env (.Name x px) body Q E it s₂) E s := by
  have hlen : es.length = cs.length := by rw [← hc]; simp
  refine iter_listTurns (lo := listOf ((refsP es).drop PP.toNat).toArray n₂) (vs := (refsP es).drop PP.toNat) (n := n₂) hh F N List.mem_cons_self rfl rfl fun I hI => ?_
  refine items_ind (FillJ lf l2 (listOf ((refsP es).drop PP.toNat).toArray n₂) (adsP es) cs PP m₀) ⟨es, n, t₀, rfl, by rw [fill_zero]; exact hc, rfl, ?_, fun _ _ _ => rfl⟩ ?_ ?_
  · rw [Nat.add_zero, firstAt_self]; exact h1
  · rintro i a m news v h tk hx hv ⟨es', n', t'', rfl, hc', has, hf, hm⟩ F₁
    have hlen' : es'.length = es.length := by
      have := congrArg List.length has
      simpa [adsP] using this
    have hi : PP.toNat + i < cs.length := by
      rcases Nat.lt_or_ge i (((refsP es).drop PP.toNat).map Itm.val).length with h | h
      · rw [List.length_map, List.length_drop, refsP_len] at h; omega
      · rw [List.getElem?_eq_none h] at hx; cases hx
    obtain ⟨e1, e, e2, rfl, hl⟩ := split_at (es := es') (j := PP.toNat + i) (by omega)
    have hx' : (((refsP es).drop PP.toNat).map Itm.val)[i]? = some (Itm.val (.ref e.a)) := by
      rw [List.getElem?_map, List.getElem?_drop, refsP_ads, ← has, ← refsP_ads, ← hl]
      simp [refsP]
    rw [hx'] at hx
    cases hx
    have hv' : v = .ref e.a := hv
    subst hv'
    rw [fr_one hf hm] at F₁
    refine AllObj.cons fun o ho => AllObj.nil fun N₁ => ?_
    refine turn i e1 e e2 n' t'' m h tk I o hi hl hc' has (hI _ (List.mem_cons_of_mem _ List.mem_cons_self)) (hI _ List.mem_cons_self) F₁ ho fun p hp => N₁ p ?_
    rw [bulkP_app]
    rcases List.mem_cons.mp hp with rfl | hp
    · exact .head _
    rcases List.mem_cons.mp hp with rfl | hp
    · exact .tail _ (.head _)
    rcases List.mem_cons.mp hp with rfl | hp
    · exact .tail _ (.tail _ (.head _))
    refine .tail _ (.tail _ (.tail _ ?_))
    rcases List.mem_cons.mp hp with rfl | hp
    · exact List.mem_append.mpr (.inr List.mem_cons_self)
    rcases List.mem_append.mp hp with hp | hp
    · exact List.mem_append.mpr (.inl hp)
    · exact List.mem_append.mpr (.inr (List.mem_cons_of_mem _ hp))
  · rintro m news h tk ⟨es', n', t'', rfl, hc', has, hf, hm⟩ F₁ N₁
    rw [List.length_map, List.length_drop, refsP_len, hlen] at hc' hf
    rw [fr_one hf hm] at F₁
    exact done es' n' t'' m h tk hc' has F₁ N₁

theorem fill_end {lf l2 I : Addr} {PP : Int} {u4 : Tok} {m₀ m' : Str → Option Value} {i n' n₂ k : Nat} {e1 e2 es : List PEnt} {e : PEnt} {cs : List Col4} {L : Addr} {h' : Heap} {tk : Nat} {s₁ : Shared} {o : Obj} {X : Array Value}
    (F : Fr h₀ L h' m') (N : News h₀ L h' ((I, o) :: (l2, listOf X n₂) :: (lf, listOf (refsP (e1 ++ e :: e2)).toArray n') :: (e.a, pList (.int e.c e.u1) (.int e.r e.u2) (.int e.m e.u3) (.int (firstAt (manyOf cs) PP (PP.toNat + i)) u4) k) :: (bulkP e1 ++ bulkP e2)))
    (ho : o.cls = .type "list_iterator") (hl : e1.length = PP.toNat + i) (hc : (e1 ++ e :: e2).map PEnt.col = fill cs PP i) (has : adsP (e1 ++ e :: e2) = adsP es)
    (hf : ∃ t'', m' (Str.ofString "first") = some (.int (firstAt (manyOf cs) PP (PP.toNat + (i + 1))) t'')) (hm : ∀ z, z ≠ Str.ofString "first" → fStored.contains z = false → m' z = m₀ z) :
    UnrEndW h₀ L s₁ [(I, o)] (fun m' n' => SubL [(l2, listOf X n₂)] n' ∧ FillJ lf l2 (listOf X n₂) (adsP es) cs PP m₀ (i + 1) m' n') { s₁ with heap := h', toks := tk } := by
  obtain ⟨t'', hf⟩ := hf
  let e' : PEnt := { e with n := k, u4 := u4, f := firstAt (manyOf cs) PP (PP.toNat + i) }
  have hr : refsP (e1 ++ e :: e2) = refsP (e1 ++ e' :: e2) := by rw [refsP_app, refsP_app]; rfl
  have hd : adsP (e1 ++ e :: e2) = adsP (e1 ++ e' :: e2) := by rw [adsP_app, adsP_app]; rfl
  rw [hr] at N
  have mem : ∀ p ∈ (l2, listOf X n₂) :: (lf, listOf (refsP (e1 ++ e' :: e2)).toArray n') :: bulkP (e1 ++ e' :: e2),
      p ∈ (I, o) :: (l2, listOf X n₂) :: (lf, listOf (refsP (e1 ++ e' :: e2)).toArray n') :: (e.a, pList (.int e.c e.u1) (.int e.r e.u2) (.int e.m e.u3) (.int (firstAt (manyOf cs) PP (PP.toNat + i)) u4) k) :: (bulkP e1 ++ bulkP e2) ∧ p.2.cls = .type "list" := by
    intro p hp
    rcases List.mem_cons.mp hp with rfl | hp
    · exact ⟨.tail _ (.head _), rfl⟩
    rcases List.mem_cons.mp hp with rfl | hp
    · exact ⟨.tail _ (.tail _ (.head _)), rfl⟩
    refine ⟨.tail _ (.tail _ (.tail _ ?_)), bulkP_cls hp⟩
    rw [bulkP_app] at hp
    rcases List.mem_append.mp hp with hp | hp
    · exact .tail _ (List.mem_append.mpr (.inl hp))
    · rcases List.mem_cons.mp hp with rfl | hp
      · exact .head _
      · exact .tail _ (List.mem_append.mpr (.inr hp))
  refine ⟨h', tk, m', _, rfl, F, fun p hp => ?_, fun p hp q hq q' => ?_, ⟨List.mem_cons_self, trivial⟩, e1 ++ e' :: e2, n', t'', rfl, ?_, hd ▸ has, hf, hm⟩
  · rcases List.mem_append.mp hp with hp | hp
    · rw [List.mem_singleton.mp hp]; exact N _ (.head _)
    · exact N _ (mem p hp).1
  · have a1 := (N _ (mem p hp).1).1
    have c1 := (mem p hp).2
    rw [List.mem_singleton.mp hq] at q'
    have a2 := (N _ (List.Mem.head _)).1
    rw [q', a2] at a1
    cases a1
    rw [ho] at c1
    exact absurd (Value.type.inj c1) (by decide)
  · have key := modify_mid (setFirst (firstAt (manyOf cs) PP (PP.toNat + i))) (e1.map PEnt.col) e.col (e2.map PEnt.col)
    have e3 : (e1 ++ e :: e2).map PEnt.col = e1.map PEnt.col ++ e.col :: e2.map PEnt.col := by simp
    rw [List.length_map, hl] at key
    rw [e3] at hc
    rw [fill_step, ← hc, key, List.map_append]
    rfl
end
end

/-! ## part PLaw -/
section
local macro_rules | `(tactic| walk_at "no such place") => `(tactic| skip)
local macro_rules | `(tactic| walk_at "no such place") => `(tactic| skip)
local macro_rules | `(tactic| walk_at "no such place") => `(tactic| skip)
local macro_rules | `(tactic| walk_at "no such place") => `(tactic| skip)
local macro_rules | `(tactic| walk_at "no such place") => `(tactic| skip)
theorem top_off_PLaw : True := by
  w_top off
  trivial
theorem rows_eq {M D : Int} (hD : 0 < D) : -(-M).fdiv D = M / D + if 0 < M % D then 1 else 0 := by
  rw [Int.fdiv_eq_ediv_of_nonneg _ (by omega)]
  have h1 := Int.mul_ediv_add_emod M D
  have h2 := Int.emod_nonneg M (show D ≠ 0 by omega)
  have h3 := Int.emod_lt_of_pos M hD
  split
  · have e : (-M) / D = -(M / D + 1) := by
      have : -M = (D - M % D) + (-(M / D + 1)) * D := by
        rw [Int.neg_mul, Int.add_mul, Int.one_mul, Int.mul_comm (M / D) D]; omega
      rw [this, Int.add_mul_ediv_right _ _ (by omega), Int.ediv_eq_zero_of_lt (by omega) (by omega)]
      omega
    omega
  · have e : (-M) / D = -(M / D) := by
      have : -M = 0 + (-(M / D)) * D := by
        rw [Int.neg_mul, Int.mul_comm (M / D) D]; omega
      rw [this, Int.add_mul_ediv_right _ _ (by omega)]
      simp
    omega
theorem total_eq {M W P : Int} (h4 : 1 ≤ P) (h6 : P < W) : M + P * -(-M).fdiv (W - P) = W * (M / (W - P)) + bigOf M W P := by
  rw [rows_eq (show 0 < W - P by omega)]
  have h1 := Int.mul_ediv_add_emod M (W - P)
  have h2 := Int.emod_nonneg M (show W - P ≠ 0 by omega)
  unfold bigOf
  have e : (W - P) * (M / (W - P)) = W * (M / (W - P)) - P * (M / (W - P)) := Int.sub_mul ..
  split
  · rw [Int.mul_add, Int.mul_one]; omega
  · rw [Int.add_zero]; omega
theorem big_bd {M W P : Int} (h4 : 1 ≤ P) (h6 : P < W) : 0 ≤ bigOf M W P ∧ bigOf M W P < W := by
  have h2 := Int.emod_nonneg M (show W - P ≠ 0 by omega)
  have h3 := Int.emod_lt_of_pos M (show 0 < W - P by omega)
  unfold bigOf
  split <;> omega
theorem used_eq {M W P : Int} (h0 : 1 ≤ M) (h4 : 1 ≤ P) (h6 : P < W) : min (M + P * -(-M).fdiv (W - P) - 0).toNat W.toNat = usedOf M W P := by
  have hb := big_bd (M := M) h4 h6
  have hq : 0 ≤ M / (W - P) := Int.ediv_nonneg (by omega) (by omega)
  rw [total_eq h4 h6]
  unfold usedOf
  by_cases hz : M / (W - P) = 0
  · rw [if_pos hz, hz]; omega
  · rw [if_neg hz]
    have : W * 1 ≤ W * (M / (W - P)) := Int.mul_le_mul_of_nonneg_left (by omega) (by omega)
    omega
theorem many_eq {M W P : Int} {k : Nat} (h0 : 1 ≤ M) (h4 : 1 ≤ P) (h6 : P < W) (hk : k < W.toNat) :
    ((((M + P * -(-M).fdiv (W - P) - 0).toNat + W.toNat - 1 - k) / W.toNat : Nat) : Int) = sizeAt M W P k := by
  have hb := big_bd (M := M) h4 h6
  have hq : 0 ≤ M / (W - P) := Int.ediv_nonneg (by omega) (by omega)
  rw [total_eq h4 h6]
  have hW : 0 < W.toNat := by omega
  obtain ⟨q, hq'⟩ := Int.eq_ofNat_of_zero_le hq
  obtain ⟨b, hb'⟩ := Int.eq_ofNat_of_zero_le hb.1
  obtain ⟨w, hw'⟩ := Int.eq_ofNat_of_zero_le (show 0 ≤ W by omega)
  unfold sizeAt
  have hbw : (b : Int) < W := hb' ▸ hb.2
  rw [hq', hb']
  subst hw'
  have hW : 0 < w := hW
  have hk : k < w := hk
  have e1 : ((w : Int) * (q : Int) + (b : Int) - 0).toNat = w * q + b := by
    rw [Int.sub_zero]
    have : ((w : Int) * (q : Int) + (b : Int)) = ((w * q + b : Nat) : Int) := by push_cast; rfl
    rw [this]; rfl
  have e2 : ((w : Nat) : Int).toNat = w := rfl
  rw [e1, e2]
  have hbw : b < w := by omega
  by_cases h : k < b
  · rw [if_pos (by omega)]
    have : w * q + b + w - 1 - k = (b - 1 - k) + w * (q + 1) := by rw [Nat.mul_add]; omega
    rw [this, Nat.add_mul_div_left _ _ hW, Nat.div_eq_of_lt (by omega)]
    omega
  · rw [if_neg (by omega)]
    have : w * q + b + w - 1 - k = (b + w - 1 - k) + w * q := by omega
    rw [this, Nat.add_mul_div_left _ _ hW, Nat.div_eq_of_lt (by omega)]
    omega
theorem child_eq {S W : Int} {k : Nat} (hW : 0 < W) : (S + (k : Int)).fmod W = (S.fmod W + (k : Int)).fmod W := by
  simp only [Int.fmod_eq_emod_of_nonneg _ (show 0 ≤ W by omega)]
  rw [Int.emod_add_emod]
theorem row_eq {S W : Int} {k : Nat} (hW : 0 < W) : (S + (k : Int)).fdiv W = S.fdiv W + (S.fmod W + (k : Int)).fdiv W := by
  simp only [Int.fdiv_eq_ediv_of_nonneg _ (show 0 ≤ W by omega), Int.fmod_eq_emod_of_nonneg _ (show 0 ≤ W by omega)]
  have h := Int.mul_ediv_add_emod S W
  have e : S + (k : Int) = (S % W + (k : Int)) + (S / W) * W := by rw [Int.mul_comm]; omega
  conv => lhs; rw [e]
  rw [Int.add_mul_ediv_right _ _ (by omega)]
  omega
theorem manyOf_paint {S M W P : Int} (h0 : 1 ≤ M) (h4 : 1 ≤ P) (h6 : P < W) : manyOf (paint S W (M + P * -(-M).fdiv (W - P) - 0).toNat) = sizes M W P := by
  unfold manyOf paint sizes
  rw [used_eq h0 h4 h6, List.map_map]
  refine List.map_congr_left fun k hk => ?_
  have hk := List.mem_range.mp hk
  have hk' : k < W.toNat := by rw [← used_eq h0 h4 h6] at hk; omega
  show ((((_ : Nat) + W.toNat - 1 - k) / W.toNat : Nat) : Int) = _
  exact many_eq h0 h4 h6 hk'
/-- what has been painted and filled in is what columns lays -/
theorem painted_eq {S M W P : Int} (h0 : 1 ≤ M) (h4 : 1 ≤ P) (h6 : P < W) :
    fill (paint S W (M + P * -(-M).fdiv (W - P) - 0).toNat) P ((paint S W (M + P * -(-M).fdiv (W - P) - 0).toNat).length - P.toNat) = colsTo (sizes M W P) S W P (sizes M W P).length := by
  have hm := manyOf_paint (S := S) h0 h4 h6
  have hl : (paint S W (M + P * -(-M).fdiv (W - P) - 0).toNat).length = (sizes M W P).length := by
    rw [← hm]; simp [manyOf]
  unfold fill colsTo
  rw [hl]
  refine List.map_congr_left fun k hk => ?_
  have hk := List.mem_range.mp hk
  have hk1 : k < (paint S W (M + P * -(-M).fdiv (W - P) - 0).toNat).length := by omega
  have hk2 : k < W.toNat := by
    have : (paint S W (M + P * -(-M).fdiv (W - P) - 0).toNat).length ≤ W.toNat := by simp [paint]; omega
    omega
  have hg : (paint S W (M + P * -(-M).fdiv (W - P) - 0).toNat).getD k (0, 0, 0, 0) = paintAt S W (M + P * -(-M).fdiv (W - P) - 0).toNat k := by
    have hk3 : k < min (M + P * -(-M).fdiv (W - P) - 0).toNat W.toNat := by simpa [paint] using hk1
    unfold paint
    rw [List.getD, List.getElem?_map, List.getElem?_range hk3]
    rfl
  unfold fillAt colAt
  rw [hg, hm]
  unfold paintAt
  dsimp only
  rw [child_eq (by omega), row_eq (by omega), many_eq h0 h4 h6 hk2]
  have hs : (sizes M W P).getD k 0 = sizeAt M W P k := by
    have hk4 : k < usedOf M W P := by simpa [sizes] using hk
    unfold sizes
    rw [List.getD, List.getElem?_map, List.getElem?_range hk4]
    rfl
  rw [hs]
  congr 3
  by_cases h : (k : Int) < P
  · rw [if_neg (by omega), if_pos h]
  · rw [if_pos (by omega), if_neg h]
theorem many_at {cs : List Col4} {PP : Int} {i : Nat} {e1 e2 : List PEnt} {e : PEnt} {j : Nat} (hl : e1.length = j) (hc : (e1 ++ e :: e2).map PEnt.col = fill cs PP i) : (manyOf cs).getD j 0 = e.m := by
  rw [← fill_many (PP := PP) (i := i), ← hc, ← hl]
  simp [manyOf, PEnt.col, List.getD]
theorem manyOf_len (cs : List Col4) : (manyOf cs).length = cs.length := by simp [manyOf]
end

/-! ## part T5 -/
section
theorem top_off_T5 : True := by
  w_top off
  trivial
set_option hygiene false
local macro_rules | `(tactic| walk_at "call ref") => `(tactic| (k_here; (with_reducible show wpAny _ _ (call (Value.ref 88) _) _ _ _); k_dflt (refine' ct_use (want_ct ?a1 ?a2 ?a3) ?B ?F ?X ?N ?T ?k ?R ?d ?u ?_; (case B => k_asm); (case F => k_asm); (case X => k_asm); (case N => k_asm); (case T => k_asm); (case k => first | exact rfl | assumption); (case d => ktr_room); (case u => ktr_units); (case R => exact ⟨_, _, rfl⟩); (case a1 => omega); (case a2 => omega); (case a3 => omega); intro r9 tl9 h9 tk9 F9 N9 g9 m9 d9 o9; obtain ⟨ht9, hr9⟩ := o9; subst hr9; subst ht9; clear m9 d9 g9; (try simp only [List.nil_append] at N9))))
local macro_rules | `(tactic| walk_at "call ref") => `(tactic| (k_here; (with_reducible show wpAny _ _ (call (Value.ref 81) _) _ _ _); k_dflt (refine' ct_use (sectors_ct ?a1 ?a2) ?B ?F ?X ?N ?T ?k ?R ?d ?u ?_; (case B => k_asm); (case F => k_asm); (case X => k_asm); (case N => k_asm); (case T => k_asm); (case k => first | exact rfl | assumption); (case d => ktr_room); (case u => ktr_units); (case R => refine ⟨_, _, rfl, ?_⟩; exact ShapeIn.grew (by assumption) (Fr.keep (by k_asm))); (case a1 => omega); (case a2 => omega); intro r9 tl9 h9 tk9 F9 N9 g9 m9 d9 o9; obtain ⟨ht9, t9, hr9⟩ := o9; subst hr9; subst ht9; clear m9 d9 g9; (try simp only [List.nil_append] at N9))))
local macro_rules | `(tactic| walk_at "call ref") => `(tactic| (k_here; (with_reducible show wpAny _ _ (call (Value.ref 100) _) _ _ _); k_dflt (refine' ct_use (sizes_ct ?a1 ?a2 ?a3 ?a4 ?a5 ?a6) ?B ?F ?X ?N ?T ?k ?R ?d ?u ?_; (case B => k_asm); (case F => k_asm); (case X => k_asm); (case N => k_asm); (case T => k_asm); (case k => first | exact rfl | assumption); (case d => ktr_room); (case u => ktr_units); (case R => exact ⟨_, _, _, rfl⟩); (case a1 => omega); (case a2 => omega); (case a3 => omega); (case a4 => omega); (case a5 => omega); (case a6 => omega); intro r9 tl9 h9 tk9 F9 N9 g9 m9 d9 o9; obtain ⟨l9, ys9, hr9, ht9, hy9⟩ := o9; subst hr9; subst ht9; (try simp only [List.nil_append, List.cons_append] at N9); (try simp only [List.forall_mem_cons, List.not_mem_nil, false_implies, implies_true, forall_const, List.mem_cons, or_false, forall_eq, forall_eq_or_imp, and_true] at d9))))
local macro_rules | `(tactic| walk_at "call ref") => `(tactic| (k_here; (with_reducible show wpAny _ _ (call (Value.ref 107) _) _ _ _); k_dflt (refine' ct_use (turned_ct ?a1 ?a2) ?B ?F ?X ?N ?T ?k ?R ?d ?u ?_; (case B => k_asm); (case F => k_asm); (case X => k_asm); (case N => k_asm); (case T => k_asm); (case k => first | exact rfl | assumption); (case d => ktr_room); (case u => ktr_units); (case R => refine ⟨_, _, _, rfl, ?_⟩; exact ShapeIn.grew (by assumption) (Fr.keep (by k_asm))); (case a1 => omega); (case a2 => omega); intro r9 tl9 h9 tk9 F9 N9 g9 m9 d9 o9; obtain ⟨ht9, hr9⟩ := o9; subst hr9; subst ht9; clear m9 d9 g9; (try simp only [List.nil_append] at N9))))
local macro_rules | `(tactic| walk_at "call builtin:len") => `(tactic| (k_here; (with_reducible show wpAny _ _ (call (Value.builtin "len") [Value.ref _]) _ _ _); k_dflt (refine' kst_len (k := (refsOf _).length + 1 + 1) ?k1 ?k2 ?k3 ?k4 ?_; (case k1 => k_asm); (case k2 => k_mem); (case k3 => rfl); (case k4 => omega); k_whole)))
local macro_rules | `(tactic| walk_at "exec For Tuple Call cons nil") => `(tactic| (k_here; (rename Fr _ _ _ _ => lF'); (with_unfolding_all refine' For_turns lF' ?_; k_whole)))
local macro_rules | `(tactic| k_ne) => `(tactic| first | (with_reducible assumption) | (with_reducible exact Ne.symm (by assumption)))
set_option maxRecDepth 100000 in
set_option maxHeartbeats 8000000 in
theorem columns_ct {w : World} {p : Program} {loose : List Str} {mean : ExcName → Option Value} {mg mb : Str → Option Value} {sector oct wide par sec slab : Int} (h0 : 0 ≤ sector) (h1 : sector < 400) (h2 : 1 ≤ oct) (h3 : oct ≤ 200) (h4 : 1 ≤ par) (h5 : par ≤ 3) (h6 : par < wide) (h7 : wide < 10)
    (h8 : 4 ≤ sec) (h9 : sec ≤ 16) (ha : 4 ≤ slab) (hb : slab ≤ 32) :
    CT PySem.Challenge.rw_np0177_01.row.prog w (hd.heap_39 w.params) p loose mean mg mb 114 5 48 (fun h vs => ∃ sh t t' t'' t3, vs = [.int sector t, .int oct t', .int wide t'', .int par t3, .ref sh] ∧ ShapeIn w.params h sh sec slab)
      (fun tl r => ∃ lf es n, r = .ref lf ∧ tl = (lf, listOf (refsOf es).toArray n) :: bulkOf w.params es ∧ es.map CEnt.col = finCols (sizes ((oct + sec - 1) / sec) wide par) sector wide par slab) := by
  have hfill : PySem.Challenge.rw_np0177_01 = PySem.Challenge.rw_np0177_01 ∧ hd.heap_39 = hd.heap_39 := by k_fill; exact ⟨rfl, rfl⟩
  clear hfill
  unfold CT
  intro dp un gd cn cs a ccd cl outer A₀ base h₀ L m s vs Q E B F X T hk hR hd' hu hret
  obtain ⟨sh, t, t', t'', t3, rfl, hS⟩ := hR
  have hM1 : 1 ≤ (oct + sec - 1) / sec := (Int.le_ediv_iff_mul_le (by omega)).mpr (by omega)
  have hM2 : (oct + sec - 1) / sec ≤ 100 := Int.le_of_lt_add_one ((Int.ediv_lt_iff_lt_mul (by omega)).mpr (by omega))
  ktn_open
  rename Fr s.heap _ _ _ => F0
  replace F0 : Fr s.heap _ _ (fun y => List.lookup y [(Str.ofString "shape", Value.ref sh), (Str.ofString "parity", .int par t3), (Str.ofString "wide", .int wide t''), (Str.ofString "octets", .int oct t'), (Str.ofString "sector", .int sector t)]) := F0
  k_steps
  rename IntsAre _ _ => hy9
  rename News s.heap _ _ _ => N9
  rename Fr s.heap _ _ _ => F9
  with_unfolding_all refine cols_loop (P := w.params) (S := sector) (W := wide) (PP := par) (by rfl) F9 N9 hy9 ?hne (by rfl) ?turn ?done
  case hne => exact ‹_ ∧ _›.2
  case turn =>
    clear N9 F9
    intro i es n T tT tT' tT'' u hT tkT I o o' hI1 hI2 hi hc hnd hTup FT ho ho' NT
    have hel := cols_len hc
    have hrl := (refs_len es).trans hel
    have hsl := sizes_len (M := (oct + sec - 1) / sec) h4 h5 h6 h7
    have hof := bulk_off (P := w.params) hnd
    have hne := lf_ne hnd
    (try k_unmd); (try k_fold)
    k_steps
    · with_unfolding_all refine cols_endX (by assumption) (by assumption) ho ho' hc ?he0 hnd (by assumption) (by assumption) ?hf0 ?hm0
      case he0 => simp only [colAt]; rw [if_pos (by omega)]
      case hf0 => exact ⟨_, by rw [first_step_par (by omega)]; rfl⟩
      case hm0 => (intro z z1 z2; obtain ⟨z3, z4, z5, z6⟩ := c_off z2; simp only [if_neg z1, if_neg z3, if_neg z4, if_neg z5, if_neg z6, z2, Bool.false_eq_true, if_false])
    · with_unfolding_all refine cols_endX (by assumption) (by assumption) ho ho' hc ?he1 hnd (by assumption) (by assumption) ?hf1 ?hm1
      case he1 => simp only [colAt]; rw [if_neg (by omega)]
      case hf1 => exact ⟨_, by rw [first_step (by omega) hi]; rfl⟩
      case hm1 => (intro z z1 z2; obtain ⟨z3, z4, z5, z6⟩ := c_off z2; simp only [if_neg z1, if_neg z3, if_neg z4, if_neg z5, if_neg z6, z2, Bool.false_eq_true, if_false])
  case done =>
    clear N9 F9
    intro es n tT u hT tkT hc hnd FT NT
    have hsz2 := sizes_len2 hM1 h4 h6
    have hsl := sizes_len (M := (oct + sec - 1) / sec) h4 h5 h6 h7
    have hel := cols_len hc
    rw [← hel] at hsz2 hsl
    obtain ⟨e0, e1, es', rfl⟩ := two_of hsz2
    rw [bulk_two, refs_two] at NT
    rw [ads_two] at hnd
    obtain ⟨hap, hn0, hn1⟩ := apart6 hnd
    obtain ⟨q1, q2, q3, q4, q5, q6, q7, q8, q9, q10, q11, q12, q13, q14, q15⟩ := hap
    have hof0 := off_tail (P := w.params) hn0
    have hof1 := off_tail (P := w.params) hn1
    have hrl : (refsOf es').length + 2 ≤ 20 := by rw [refs_len]; simpa using hsl
    simp only [CEnt.dict] at NT
    dsimp only
    (try k_unmd); (try k_fold)

    k_steps
    all_goals (try dsimp only)
    all_goals k_steps
    · refine BEnd.intro (by assumption) (by assumption) ?_
      intro hg9 hm9
      refine hret _ ((_, listOf _ n) :: bulkOf w.params ({ e0 with c := e1.c, r := e1.r, u1 := e1.u1, u2 := e1.u2 } :: { e1 with c := e0.c, r := e0.r, u1 := e0.u1, u2 := e0.u2 } :: es')) _ _ hg9 (hm9.sub fun p hp => .tail _ (.tail _ (sub_cols p hp))) ⟨_, ({ e0 with c := e1.c, r := e1.r, u1 := e1.u1, u2 := e1.u2 } :: { e1 with c := e0.c, r := e0.r, u1 := e0.u1, u2 := e0.u2 } :: es'), n, rfl, rfl, ?_⟩
      unfold finCols
      rw [if_pos (by assumption), ← hc]
      rfl
    · refine BEnd.intro (by assumption) (by assumption) ?_
      intro hg9 hm9
      refine hret _ ((_, listOf _ n) :: bulkOf w.params (e0 :: e1 :: es')) _ _ hg9 (hm9.sub fun p hp => sub_cols p hp) ⟨_, e0 :: e1 :: es', n, rfl, rfl, ?_⟩
      unfold finCols
      rw [if_neg (by assumption)]
      exact hc
end

/-! ## part T6 -/
section
theorem top_off_T6 : True := by
  w_top off
  trivial
local macro_rules | `(tactic| walk_at "subscriptTail") => `(tactic| (k_here; (with_reducible show wpAny _ _ (subscriptTail _ _ (Value.ref _) (Value.int _ _)) _ _ _); k_dflt (first
  | (refine' p_tailA ?N ?m ?a ?b ?c ?_; (case N => k_asm); (case m => k_mem); (case a => omega); (case b => omega); (case c => omega); k_whole)
  | (refine' p_tailB ?N ?m ?a ?b ?c ?_; (case N => k_asm); (case m => k_mem); (case a => omega); (case b => omega); (case c => omega); k_whole))))
local macro_rules | `(tactic| walk_at "exec For Name Subscript cons nil") => `(tactic| (k_here; (rename Fr _ _ _ _ => lF'); (with_unfolding_all refine' For_turns lF' ?_; k_whole)))
local macro_rules | `(tactic| walk_at "subscriptTail Name Slice ref ref") => `(tactic| (k_here; (with_reducible show wpAny _ _ (subscriptTail _ (PySem.Expr.Slice _ _ none _) (Value.ref _) (Value.ref _)) _ _ _); k_dflt (refine' p_slice ?F ?N ?l ?p ?_ ?s ?t ?z; (case F => k_asm); (case N => k_asm); (case l => kmk_list); (case p => omega); (case s => with_unfolding_all rfl); (case t => kmk_pure); (case z => size_fits)); intro D' h' F' N' l1; (try k_lt l1); (try k_sweep)))
local macro_rules | `(tactic| walk_at "exec For Name Call cons nil") => `(tactic| (k_here; (rename Fr _ _ _ _ => lF'); (with_unfolding_all refine' For_turns lF' ?_; k_whole)))
set_option maxRecDepth 100000 in
set_option maxHeartbeats 8000000 in
theorem painted_ct {w : World} {p : Program} {loose : List Str} {mean : ExcName → Option Value} {mg mb : Str → Option Value} {sector many wide par : Int} (h0 : 0 ≤ sector) (h1 : sector < 400) (h2 : 1 ≤ many) (h3 : many ≤ 50) (h4 : 1 ≤ par) (h5 : par ≤ 3) (h6 : par < wide) (h7 : wide < 10) :
    CT PySem.Challenge.rw_np0177_01.row.prog w (hd.heap_39 w.params) p loose mean mg mb 164 5 48 (fun _ vs => ∃ t t' t'' t3, vs = [.int sector t, .int many t', .int wide t'', .int par t3])
      (fun tl r => ∃ lf es n, r = .ref lf ∧ tl = (lf, listOf (refsP es).toArray n) :: bulkP es ∧ es.map PEnt.col = colsTo (sizes many wide par) sector wide par (sizes many wide par).length ∧ (lf :: adsP es).Nodup) := by
  have hfill : PySem.Challenge.rw_np0177_01 = PySem.Challenge.rw_np0177_01 ∧ hd.heap_39 = hd.heap_39 := by k_fill; exact ⟨rfl, rfl⟩
  clear hfill
  unfold CT
  intro dp un gd cn cs a ccd cl outer A₀ base h₀ L m s vs Q E B F X T hk hR hd' hu hret
  obtain ⟨t, t', t'', t3, rfl⟩ := hR
  have hR0 : 0 ≤ -(-many).fdiv (wide - par) := by
    rw [Int.fdiv_eq_ediv_of_nonneg _ (by omega)]
    have := Int.ediv_le_of_le_mul (a := -many) (b := 0) (c := wide - par) (by omega) (by omega)
    omega
  have hR1 : -(-many).fdiv (wide - par) ≤ 50 := by
    rw [Int.fdiv_eq_ediv_of_nonneg _ (by omega)]
    have := (Int.le_ediv_iff_mul_le (a := -50) (b := -many) (c := wide - par) (by omega)).mpr (by omega)
    omega
  have hP0 : 0 ≤ par * -(-many).fdiv (wide - par) := Int.mul_nonneg (by omega) hR0
  have hP1 : par * -(-many).fdiv (wide - par) ≤ 150 := by
    have a := Int.mul_le_mul h5 hR1 hR0 (by omega)
    omega
  ktn_open
  rename Fr s.heap _ _ _ => F0
  replace F0 : Fr s.heap _ _ (fun y => List.lookup y [(Str.ofString "parity", Value.int par t3), (Str.ofString "wide", .int wide t''), (Str.ofString "many", .int many t'), (Str.ofString "sector", .int sector t)]) := F0
  k_steps
  rename News s.heap _ _ _ => N9
  rename Fr s.heap _ _ _ => F9
  rename IsRange _ _ _ _ _ _ _ _ => R9
  obtain ⟨tR, tZ, F8⟩ := (show ∃ tR tZ, Fr s.heap _ _ (fun y => if y = Str.ofString "found" then some (Value.ref _) else if y = Str.ofString "first" then some (.int 0 tZ) else if y = Str.ofString "rows" then some (.int (-(-many).fdiv (wide - par)) tR) else
    List.lookup y [(Str.ofString "parity", Value.int par t3), (Str.ofString "wide", .int wide t''), (Str.ofString "many", .int many t'), (Str.ofString "sector", .int sector t)]) from ⟨_, _, F9⟩)
  clear F9
  with_unfolding_all refine paint_loop (S := sector) (W := wide) (by rfl) R9 (small_one (by decide) (by decide) (by omega) (by omega)) (rangeSize_nat _ _) F8 N9 (List.mem_cons_of_mem _ List.mem_cons_self) (by omega) ?tA ?tB ?done
  case tA =>
    clear N9 F8 R9
    intro i es n tT u hT tkT I o hi hlt hel hc hnd hI FT ho NT
    have hrl := (refsP_len es).trans hel
    have hnl := (List.nodup_cons.mp hnd).1
    have hof := offP hnl
    have hk0 : (i : Int).fmod wide = (i : Int) := by rw [Int.fmod_eq_emod_of_nonneg _ (by omega)]; exact Int.emod_eq_of_lt (by omega) hlt
    try k_unmd
    try k_fold
    k_steps
    rename News s.heap _ _ _ => NX
    rename Fr s.heap _ _ _ => FX
    with_unfolding_all refine paint_endA FX NX ho hlt hc rfl rfl hnd (by assumption) ?_
    intro z hz
    have hz1 := p_off hz
    simp only [if_neg hz1, hz, Bool.false_eq_true, if_false]
  case tB =>
    clear N9 F8 R9
    intro i e1 e e2 n tT u hT tkT I o hi hge hl hc hnd hI FT ho NT
    have hrl := refsP_len (e1 ++ e :: e2)
    rw [adsP_app] at hnd
    have hk0 : (i : Int).fmod wide = ((i % wide.toNat : Nat) : Int) := by
      rw [Int.fmod_eq_emod_of_nonneg _ (by omega)]
      have : ((wide.toNat : Nat) : Int) = wide := Int.toNat_of_nonneg (by omega)
      rw [Int.natCast_emod, this]
    have hk1 : i % wide.toNat < wide.toNat := Nat.mod_lt _ (by omega)
    obtain ⟨hle, hof⟩ := off_mid hnd
    have hIe := news_ne NT List.mem_cons_self (List.mem_cons_of_mem _ (List.mem_cons_of_mem _ List.mem_cons_self)) (by rw [ho]; exact fun q => absurd (Value.type.inj q) (by decide))
    simp only [PEnt.obj] at NT hIe
    try k_unmd
    try k_fold
    k_steps
    rename News s.heap _ _ _ => NX
    rename Fr s.heap _ _ _ => FX
    rw [← adsP_app] at hnd
    with_unfolding_all refine paint_endB FX NX ho (by omega) hge hl hc hnd ?_
    intro z hz
    have hz1 := p_off hz
    simp only [if_neg hz1, hz, Bool.false_eq_true, if_false]
  case done =>
    clear N9 F8 R9
    intro es n u hT tkT hc hnd FT NT
    have hesl := paint_len hc
    have hrl := refsP_len es
    dsimp only
    try k_unmd
    try k_fold
    k_steps
    obtain ⟨hlD, hDall⟩ := ‹_ ∧ AllLt _ (bulkP es)›
    rename News s.heap _ _ _ => N9
    rename Fr s.heap _ _ _ => F9
    with_unfolding_all refine fill_loop (PP := par) (cs := paint sector wide (many + par * -(-many).fdiv (wide - par) - 0).toNat) (by rfl) F9 N9 hc (by rfl) hnd ?tF ?dF
    case tF =>
      clear N9 F9
      try clear FT NT
      intro i e1 e e2 n' tT'' u' hT' tkT' I o hi hl hc' has hI1 hI2 FT' ho NT'
      have heD := ads_lt hDall (a := e.a) (by rw [← has, adsP_app]; exact List.mem_append.mpr (.inr List.mem_cons_self))
      rw [← has, adsP_app] at hnd
      obtain ⟨hle, hof⟩ := off_mid hnd
      have hIe := news_ne NT' List.mem_cons_self (List.mem_cons_of_mem _ (List.mem_cons_of_mem _ (List.mem_cons_of_mem _ List.mem_cons_self))) (by rw [ho]; exact fun q => absurd (Value.type.inj q) (by decide))
      simp only [PEnt.obj] at NT' hIe
      try k_unmd
      try k_fold
      k_steps
      rename News s.heap _ _ _ => NX
      rename Fr s.heap _ _ _ => FX
      with_unfolding_all refine fill_end FX NX ho hl hc' has ?hf ?hm
      case hf => exact ⟨_, by rw [← Nat.add_assoc, first_step (by omega) (by rw [manyOf_len]; exact hi), many_at hl hc']; rfl⟩
      case hm =>
        intro z z1 z2
        have z3 := f_off z2
        simp only [if_neg z1, if_neg z3, z2, Bool.false_eq_true, if_false]
    case dF => 
      clear N9 F9
      try clear FT NT
      intro es' n' tT'' u' hT' tkT' hc' has FT' NT'
      dsimp only
      try k_unmd
      try k_fold
      k_steps
      all_goals (try dsimp only)
      all_goals k_steps
      refine BEnd.intro (by assumption) (by assumption) ?_
      intro hg9 hm9
      refine hret _ ((_, listOf (refsP es').toArray n') :: bulkP es') _ _ hg9 (hm9.sub fun p hp => .tail _ hp) ⟨_, es', n', rfl, rfl, ?_, ?_⟩
      · rw [hc', painted_eq h2 h4 h6]
      · rw [has]; exact hnd
end

/-! ## part Byt -/
section
set_option maxRecDepth 100000
theorem top_off_Byt : True := by
  w_top off
  trivial
theorem by_spec : typeLookup (.type "bytes") "__bytes__" = pure (some (.builtin "bytes.__bytes__")) := by rw [typeLookup_type, builtinLookup_eq_fast]; kernel_rfl
theorem by_no_bytes : typeLookup (.type "int") "__bytes__" = pure none := by rw [typeLookup_type, builtinLookup_eq_fast]; kernel_rfl
theorem by_index : typeLookup (.type "int") "__index__" = pure (some (.builtin "int.__index__")) := by rw [typeLookup_type, builtinLookup_eq_fast]; kernel_rfl
section
variable {prog : Program} {w : World} {A : Around} {E : Value → Shared → Prop} {s : Shared}
theorem by_new {b : Array UInt8} {t : Tok} {Q : Value → Shared → Prop} (hQ : Q (.bytes b t) s) :
    codeAny (model prog w) A (.call (.builtin "bytes.__new__") ⟨[.type "bytes", .bytes b t], []⟩) (wants Q E) s := by
  refine codeAny_of_tree ?_
  show wpAny _ A.in1 (do checkBuiltinCall "bytes.__new__" ⟨[.type "bytes", .bytes b t], []⟩; again (.builtin "bytes.__new__" ⟨[.type "bytes", .bytes b t], []⟩)) _ _ s
  refine wpAny_bind (wpAny_of_eq (F.bm_newCall _) (wpAny_pure ⟨plainId_quiet F.bm_plain _, codeAny_builtin F.bm_entry ?_⟩))
  rw [Around.under_plainId F.bm_plain _]
  have hT : s.TypeIs (.bytes b t) "bytes" := PySem.W.typeIs_bytes _ _ _
  unfold Builtin.«bytes.__new__»
  refine wpAny_bind (wpAny_of_eq (a := true) rfl ?_)
  refine bm_if_false rfl ?_
  refine wpAny_bind (wpAny_of_eq F.bm_sub ?_)
  refine bm_if_false rfl ?_
  refine wpAny_bind (wpAny_of_eq (F.bm_bind _) ?_)
  refine wpAny_bind (wpAny_of_eq (a := ()) rfl ?_)
  refine wpAny_bind (wpAny_of_eq (a := ()) rfl ?_)
  refine bm_if_false rfl ?_
  refine wpAny_bind (wpAny_specialOf hT by_spec ?_)
  show wpAny _ _ (rule "bytes.__new__.of-bytes" >>= _) _ _ _
  refine wpAny_bind (wpAny_rule ?_)
  refine wpAny_bind (wpAny_typeOf hT ?_)
  exact wpAny_pure hQ
theorem by_zero {n : Int} {t : Tok} {Q : Value → Shared → Prop} (h0 : 0 ≤ n) (h1 : n < 10000) (hQ : Q (.bytes (Array.replicate n.toNat 0) s.toks) { s with toks := s.toks + 1 }) :
    codeAny (model prog w) A (.call (.builtin "bytes.__new__") ⟨[.type "bytes", .int n t], []⟩) (wants Q E) s := by
  refine codeAny_of_tree ?_
  show wpAny _ A.in1 (do checkBuiltinCall "bytes.__new__" ⟨[.type "bytes", .int n t], []⟩; again (.builtin "bytes.__new__" ⟨[.type "bytes", .int n t], []⟩)) _ _ s
  refine wpAny_bind (wpAny_of_eq (F.bm_newCall _) (wpAny_pure ⟨plainId_quiet F.bm_plain _, codeAny_builtin F.bm_entry ?_⟩))
  rw [Around.under_plainId F.bm_plain _]
  have hT : s.TypeIs (.int n t) "int" := rfl
  unfold Builtin.«bytes.__new__»
  refine wpAny_bind (wpAny_of_eq (a := true) rfl ?_)
  refine bm_if_false rfl ?_
  refine wpAny_bind (wpAny_of_eq F.bm_sub ?_)
  refine bm_if_false rfl ?_
  refine wpAny_bind (wpAny_of_eq (F.bm_bind _) ?_)
  refine wpAny_bind (wpAny_of_eq (a := ()) rfl ?_)
  refine wpAny_bind (wpAny_of_eq (a := ()) rfl ?_)
  refine bm_if_false rfl ?_
  refine wpAny_bind (wpAny_specialOf hT by_no_bytes ?_)
  refine wpAny_bind (wpAny_bind (wpAny_of_eq (a := none) rfl (wpAny_pure ?_)))
  refine bm_if_false rfl ?_
  refine wpAny_bind (wpAny_specialOf hT by_index ?_)
  refine bm_if_false rfl ?_
  refine wpAny_bind (wpAny_attempt (wpAny_of_eq (a := n) rfl ?_))
  show wpAny _ _ (if (!Builtin.Bytes.fitsIndex n) = true then _ else _) _ _ _
  refine bm_if_false (by unfold Builtin.Bytes.fitsIndex; simp; omega) ?_
  show wpAny _ _ (if n < 0 then _ else _) _ _ _
  rw [if_neg (by omega)]
  show wpAny _ _ (if n > 2 ^ 63 - 34 then _ else _) _ _ _
  rw [if_neg (by omega)]
  show wpAny _ _ (if Builtin.Bytes.tooLong n.toNat = true then _ else _) _ _ _
  refine bm_if_false (KBy.tooLong_not (by omega)) ?_
  show wpAny _ _ (rule "bytes.__new__.count" >>= _) _ _ _
  refine wpAny_bind (wpAny_rule ?_)
  refine wpAny_bind (wpAny_mkBytes ?_ (by rw [Array.size_replicate, sizeLine_eq]; omega))
  exact wpAny_pure hQ
theorem by_call_bytes {b : Array UInt8} {t : Tok} {Q : Value → Shared → Prop} (hQ : Q (.bytes b t) s) : wpAny (model prog w) A (call (.type "bytes") [.bytes b t]) Q E s := by
  refine callType_codes (Q₁ := fun obj s₁ => s₁.TypeIs obj "bytes" ∧ Q obj s₁) F.bm_called (F.bm_typeCall _) F.entry_object_init
    (by_new ⟨PySem.W.typeIs_bytes _ _ _, hQ⟩) fun obj s₁ h₁ => ?_
  exact ⟨h₁.1, F.args_object_init_2 obj _, object_init_meets F.bm_called.init.lookup F.bm_called.made (by decide) prog w A.in1 _ s₁ ⟨h₁.1, rfl, h₁.2⟩⟩
theorem by_call_zero {n : Int} {t : Tok} {Q : Value → Shared → Prop} (h0 : 0 ≤ n) (h1 : n < 10000) (hQ : Q (.bytes (Array.replicate n.toNat 0) s.toks) { s with toks := s.toks + 1 }) :
    wpAny (model prog w) A (call (.type "bytes") [.int n t]) Q E s := by
  refine callType_codes (Q₁ := fun obj s₁ => s₁.TypeIs obj "bytes" ∧ Q obj s₁) F.bm_called (F.bm_typeCall _) F.entry_object_init
    (by_zero h0 h1 ⟨PySem.W.typeIs_bytes _ _ _, hQ⟩) fun obj s₁ h₁ => ?_
  exact ⟨h₁.1, F.args_object_init_2 obj _, object_init_meets F.bm_called.init.lookup F.bm_called.made (by decide) prog w A.in1 _ s₁ ⟨h₁.1, rfl, h₁.2⟩⟩
end
/-- texts of octets as values -/
noncomputable def bvals (cs : List (Array UInt8 × Tok)) : List Value := cs.map fun p => .bytes p.1 p.2
theorem slot_bytes_join : Slot "bytes" "join" "bytes.join" :=
  .of (owner := "bytes") (n := "join") (by rw [typeLookup_type, builtinLookup_eq_fast]; kernel_rfl) (by decide +kernel) (by decide +kernel) (by decide +kernel)
    (by first | exact .inl (by decide +kernel) | exact .inr (by decide +kernel)) (by rw [isSubtype_type]; kernel_rfl)
theorem type_bytes_join : typeOf (.builtin "bytes.join") = pure (.type "method_descriptor") := by show builtinType _ = _; rw [builtinType_eq_fast]; kernel_rfl
theorem entry_bytes_join : entryFor table "bytes.join" = some Builtin.«bytes.join» := entryFor_of_tree (by kernel_rfl)
theorem args_bytes_join (a b : Value) : argsOk "bytes.join" ⟨[a, b], []⟩ := by
  unfold argsOk; rw [signature?_of (id := "bytes.join") (n := ['n', 'i', 'o', 'j']) (o := ['s', 'e', 't', 'y', 'b']) (by kernel_rfl) FB.owner_bytes]; kernel_rfl
/-- one behind another -/
noncomputable def catA (bs : List (Array UInt8)) : Array UInt8 := bs.foldl (fun x y => x ++ y) #[]
theorem joined_eq : ∀ (bs : List (Array UInt8)) (k : Nat) (acc : Array UInt8), (bs.zipIdx k).foldl (fun out p => (if p.2 > 0 then out ++ #[] else out) ++ p.1) acc = bs.foldl (fun x y => x ++ y) acc
  | [], _, _ => rfl
  | b :: r, k, acc => by
    show (r.zipIdx (k + 1)).foldl _ ((if k > 0 then acc ++ #[] else acc) ++ b) = r.foldl _ (acc ++ b)
    have e : (if k > 0 then acc ++ #[] else acc) = acc := by split <;> simp
    rw [e]
    exact joined_eq r (k + 1) _
theorem joined_is (bs : List (Array UInt8)) : Builtin.Bytes.joined #[] bs = catA bs := joined_eq bs 0 #[]
theorem wp_upto {M : Model} {A : Around} {E : Value → Shared → Prop} {s : Shared} {β : Type} {n : Nat} {f : Nat → β → Sem (ForInStep β)} {Q : β → Shared → Prop} (J : Nat → β)
    (hstep : ∀ i, i < n → ∀ Q' : ForInStep β → Shared → Prop, Q' (.yield (J (i + 1))) s → wpAny M A (f i (J i)) Q' E s) (h : Q (J n) s) : wpAny M A (forIn [:n] (J 0) f) Q E s := by
  rw [Std.Legacy.Range.forIn_eq_forIn_range']
  refine wpAny_forIn_list f (fun rest b s' => s' = s ∧ ∃ i, i ≤ n ∧ rest = List.range' i (n - i) ∧ b = J i) Q ?_ ?_ _ _ ⟨rfl, 0, Nat.zero_le _, by simp [Std.Legacy.Range.size], rfl⟩
  · rintro x rest b s' ⟨rfl, i, hi, hr, rfl⟩
    have hlt : i < n := by
      rcases Nat.lt_or_ge i n with h | h
      · exact h
      · have : n - i = 0 := by omega
        rw [this] at hr; cases hr
    have e : n - i = (n - (i + 1)) + 1 := by omega
    rw [e, List.range'_succ] at hr
    injection hr with h1 h2
    subst h1
    exact hstep x hlt _ ⟨rfl, x + 1, hlt, h2, rfl⟩
  · rintro b s' ⟨rfl, i, hi, hr, rfl⟩
    have : n - i = 0 := by
      have := congrArg List.length hr
      simpa using this.symm
    have e : i = n := by omega
    rw [e]; exact h
theorem by_take {id : String} {b : Array UInt8} {t : Tok} {M : Model} {A : Around} {E : Value → Shared → Prop} {s : Shared} {Q : Option (Array UInt8 × Option Value) → Shared → Prop} (h : Q (some (b, none)) s) :
    wpAny M A (Builtin.Bytes.takeBufferQuiet? id (.bytes b t) 0) Q E s := by
  unfold Builtin.Bytes.takeBufferQuiet?
  refine wpAny_bind (wpAny_attempt ?_)
  unfold Builtin.Bytes.takeBuffer?
  refine wpAny_bind (wpAny_of_eq (KBy.special_eq KBy.look_buffer) ?_)
  dsimp only
  refine wpAny_bind (wpAny_of_eq KBy.own_buffer ?_)
  refine bm_if_false rfl ?_
  refine wpAny_bind (wpAny_of_eq (KBy.special_eq KBy.look_buffer) ?_)
  show wpAny _ _ (Builtin.Bytes.buffer? _ _ _ >>= _) _ _ _
  refine wpAny_bind (wpAny_of_eq KBy.buffer_eq ?_)
  exact wpAny_pure (wpAny_pure h)
theorem by_letGo {M : Model} {A : Around} {E : Value → Shared → Prop} {s : Shared} : ∀ {tk : List (Value × Option Value)} {keep : List Value} {Q : Unit → Shared → Prop} (_ : ∀ p ∈ tk, p.2 = none) (_ : Q () s), wpAny M A (Builtin.Bytes.joinLetGo tk keep) Q E s
  | [], _, _, _, h => wpAny_pure h
  | (x, w) :: r, keep, Q, hn, h => by
    have e : w = none := hn (x, w) (.head _)
    subst e
    unfold Builtin.Bytes.joinLetGo
    refine wpAny_bind (wpAny_letGo ?_)
    exact by_letGo (fun p hp => hn p (.tail _ hp)) h
noncomputable def heldAt (cs : List (Array UInt8 × Tok)) (i : Nat) : Array (Array UInt8) × List (Value × Option Value) := (((cs.take i).map (·.1)).toArray, (cs.take i).map fun p => (Value.bytes p.1 p.2, none))
section
variable {prog : Program} {w : World} {A : Around} {E : Value → Shared → Prop} {s : Shared} {l : Addr} {t : Tok}
theorem by_join {cs : List (Array UInt8 × Tok)} {R : PySem.Fin → Shared → Prop} (hl : s.heap.IsList l (bvals cs).toArray) (hz : (catA (cs.map (·.1))).size ≤ 16777216)
    (hz2 : ((cs.map (·.1)).toArray.foldl (· + ·.size) 0) ≤ 16777216)
    (hQ : ∀ t' k, R (.done (.ret (.bytes (catA (cs.map (·.1))) t'))) { s with toks := k }) :
    wpAny (model prog w) A (Builtin.«bytes.join» ⟨[.bytes #[] t, .ref l], []⟩) R E s := by
  have hT : s.TypeIs (.ref l) "list" := hl.typeIs
  obtain ⟨ol, hol, hoc, nl, hod⟩ := id hl
  have main : ∀ {f : Nat → Array (Array UInt8) × List (Value × Option Value) → Sem (ForInStep (Array (Array UInt8) × List (Value × Option Value)))} {g : Array (Array UInt8) × List (Value × Option Value) → Sem PySem.Fin},
      (∀ i, i < (bvals cs).length → ∀ Q' : ForInStep _ → Shared → Prop, Q' (.yield (heldAt cs (i + 1))) s → wpAny (model prog w) A (f i (heldAt cs i)) Q' E s) →
      wpAny (model prog w) A (g (heldAt cs (bvals cs).length)) R E s →
      wpAny (model prog w) A (forIn [:(bvals cs).toArray.size] (#[], []) f >>= g) R E s := by
    intro f g h1 h2
    refine wpAny_bind ?_
    rw [List.size_toArray]
    exact wp_upto (heldAt cs) h1 h2
  unfold Builtin.«bytes.join» Builtin.Bytes.joinM
  refine wpAny_bind (wpAny_of_eq (a := (Value.bytes #[] t, Value.ref l)) rfl ?_)
  dsimp only
  refine bm_if_true rfl ?_
  refine wpAny_bind ?_
  unfold Builtin.Bytes.joinItems
  refine wpAny_bind (wpAny_typeOf hT ?_)
  refine bm_if_true (by decide) ?_
  refine wpAny_pure ?_
  refine wpAny_bind (wpAny_seqItems hol hod ?_)
  dsimp only
  refine bm_if_true rfl ?_
  rcases cs with _ | ⟨⟨b, u⟩, _ | ⟨⟨b', u'⟩, r⟩⟩
  case cons.nil =>
    show wpAny _ _ (typeOf (Value.bytes b u) >>= _) _ _ _
    refine wpAny_bind (wpAny_typeOf (PySem.W.typeIs_bytes _ _ _) ?_)
    refine bm_if_true (by decide) ?_
    refine wpAny_bind (wpAny_rule ?_)
    have e : catA (List.map (fun x => x.fst) [(b, u)]) = b := by simp [catA]
    have q := hQ u s.toks
    rw [e] at q
    exact wpAny_pure q
  all_goals refine main ?_ ?_
  case nil.refine_1 => intro i hi; exact absurd hi (Nat.not_lt_zero _)
  case cons.cons.refine_1 =>
    clear main
    generalize ((b, u) :: (b', u') :: r) = cs at *
    intro i hi Q' q
    have hi' : i < cs.length := by simpa [bvals] using hi
    refine wpAny_bind (wpAny_seqItems hol hod ?_)
    dsimp only
    refine bm_if_false ?_ ?_
    · rw [Bool.or_eq_false_iff]
      refine ⟨rfl, List.any_eq_false.mpr fun p hp => ?_⟩
      obtain ⟨q, _, rfl⟩ := List.mem_map.mp hp
      simp [Value.onHeap]
    · have hx : (bvals cs).toArray.getD i Value.none = .bytes cs[i].1 cs[i].2 := by simp [bvals, hi']
      rw [hx]
      refine wpAny_bind (wpAny_holding (by_take ?_))
      dsimp only
      refine wpAny_bind (wpAny_seqItems hol hod ?_)
      dsimp only
      refine bm_if_false (by simp) ?_
      refine wpAny_pure ?_
      have e : heldAt cs (i + 1) = ((heldAt cs i).fst.push cs[i].1, (heldAt cs i).snd ++ [(.bytes cs[i].1 cs[i].2, none)]) := by
        unfold heldAt
        rw [List.take_succ_eq_append_getElem hi', List.map_append, List.map_append]
        exact Prod.ext (by rw [Array.push_eq_append]; simp) rfl
      rw [e] at q
      exact q
  all_goals
    clear main
    first | generalize ((b, u) :: (b', u') :: r) = cs at * | generalize ([] : List (Array UInt8 × Tok)) = cs at *
    have e : heldAt cs (bvals cs).length = ((cs.map (·.1)).toArray, cs.map fun p => (Value.bytes p.1 p.2, none)) := by simp [heldAt, bvals, List.take_length]
    rw [e]
    refine wpAny_bind (wpAny_pure ?_)
    refine bm_if_false (KBy.tooLong_not (by simpa using hz2)) ?_
    refine wpAny_bind ?_
    show wpAny _ _ (mkBytes (Builtin.Bytes.joined #[] (cs.map (·.1)))) _ _ _
    rw [joined_is]
    refine wpAny_mkBytes ?_ (by rw [sizeLine_eq]; exact hz)
    refine wpAny_bind (wpAny_holding ?_)
    refine wpAny_point ?_
    refine wpAny_bind (by_letGo (fun p hp => by obtain ⟨q, _, rfl⟩ := List.mem_map.mp hp; rfl) ?_)
    exact wpAny_pure (hQ _ _)
theorem by_join_call {cs : List (Array UInt8 × Tok)} {Q : Value → Shared → Prop} (hl : s.heap.IsList l (bvals cs).toArray) (hz : (catA (cs.map (·.1))).size ≤ 16777216)
    (hz2 : ((cs.map (·.1)).toArray.foldl (· + ·.size) 0) ≤ 16777216)
    (hQ : ∀ t' k, Q (.bytes (catA (cs.map (·.1))) t') { s with toks := k }) : wpAny (model prog w) A (call (.builtin "bytes.join") [.bytes #[] t, .ref l]) Q E s := by
  refine wpAny_call (codeAny_call_builtin slot_bytes_join.plain entry_bytes_join (slot_bytes_join.check _ _ _ _ _ _ _ _ (PySem.W.typeIs_bytes _ _ _) (args_bytes_join _ _) ?_))
  exact by_join hl hz hz2 hQ
theorem by_join_method {M : Model} {b : Array UInt8} {pl : Sem Bool} {Q : Value × List Value → Shared → Prop} (h : Q (.builtin "bytes.join", [.bytes b t]) s) : wpAny M A (getMethod (.bytes b t) "join" pl) Q E s :=
  KBd.method_of (.bytes b t) (PySem.W.typeIs_bytes _ _ _) slot_bytes_join type_bytes_join KBd.noRef h
end
end

/-! ## part Parts -/
section
local macro_rules | `(tactic| walk_at "no such place") => `(tactic| skip)
theorem top_off_Parts : True := by
  w_top off
  trivial
noncomputable def partAt (ks : List Int) (sec : Int) (c : Col4) : List Int :=
  (ks.drop (c.2.2.2 * sec).toNat).take (c.2.2.1 * sec).toNat ++ List.replicate ((c.2.2.1 * sec).toNat - ((ks.drop (c.2.2.2 * sec).toNat).take (c.2.2.1 * sec).toNat).length) 0
noncomputable def partsOf (ks : List Int) (sec : Int) (cs : List Col4) : List (List Int) := (cs.filter fun c => decide (0 ≤ c.2.2.2)).map (partAt ks sec)
noncomputable def bIntsOf (bs : List (Array UInt8 × Tok)) : List (List Int) := bs.map fun p => KBw.bInts p.1
noncomputable abbrev qStored : List Str := [Str.ofString "column", Str.ofString "begin", Str.ofString "size", Str.ofString "part"]
noncomputable def PartsJ (lp : Addr) (ks : List Int) (sec : Int) (cs : List Col4) (m₀ : Str → Option Value) (i : Nat) (m : Str → Option Value) (news : List (Addr × Obj)) : Prop :=
  ∃ bs n, (lp, listOf (bvals bs).toArray n) ∈ news ∧ bIntsOf bs = partsOf ks sec (cs.take i) ∧ ∀ z, qStored.contains z = false → m z = m₀ z
theorem bvals_len (bs : List (Array UInt8 × Tok)) : (bvals bs).length = bs.length := by simp [bvals]
theorem bvals_app (a b : List (Array UInt8 × Tok)) : bvals (a ++ b) = bvals a ++ bvals b := by simp [bvals]
theorem q_off {z : Str} (h : qStored.contains z = false) : z ≠ Str.ofString "column" ∧ z ≠ Str.ofString "begin" ∧ z ≠ Str.ofString "size" ∧ z ≠ Str.ofString "part" := by
  simp only [qStored, List.contains_cons, Bool.or_eq_false_iff, beq_eq_false_iff_ne, ne_eq] at h
  exact ⟨h.1, h.2.1, h.2.2.1, h.2.2.2.1⟩
theorem zeros_ints (n : Nat) : KBw.bInts (Array.replicate n 0) = List.replicate n 0 := by
  unfold KBw.bInts
  rw [Array.toList_replicate, List.map_replicate]; rfl
section
variable {prog : Program} {w : World} {A : Around} {E : Value → Shared → Prop} {s : Shared} {env : Env} {h₀ : Heap} {L : Addr} {m : Str → Option Value} {x : Str} {px : Pos} {target : Expr} {body : List Stmt} {Q : Flow → Shared → Prop}
/-- a list that stands on the ground is walked -/
theorem base_listTurns {ax : Addr} {lo : Obj} {vs : List Value} {n : Nat} {m₀ : Str → Option Value} {news : List (Addr × Obj)}
    (hh : A.handled = none) (F : Fr h₀ env.locals s.heap m₀) (N : News h₀ env.locals s.heap news) (hg : h₀.get? ax = some lo) (hc : lo.cls = .type "list") (hd : lo.data = .seq vs.toArray n)
    (rest₀ : ∀ I : Addr, (∀ p ∈ news, p.1 < I) → ItemsRest prog w A E h₀ env target body Q s [(I, "list_iterator")] [] (vs.map .val) m₀ news) :
    wpAny (model prog w) A (pyIter (.ref ax)) (fun it s₂ => TurnsAt prog w A h₀ env target body Q E it s₂) E s := by
  have hax : s.heap.get? ax = some lo := F.keep _ _ hg
  have hl : s.heap.IsList ax vs.toArray := ⟨lo, hax, hc, n, hd⟩
  have hlt : ax < s.heap.objs.size := Heap.lt_size hax
  have hne : ax ≠ s.heap.objs.size := Nat.ne_of_lt hlt
  refine wpAny_pyIter_list hl ?_
  refine ktg_core (tk0 := s.toks) (keep := []) (KTurns.ofWalks (Walks.list hh s.heap.objs.size ax hne vs.toArray) fun i v s Q E st q => letGo_listiter st.1 q) (by simp) (fun i v h hp => ⟨.val v, ?_, rfl⟩) (fun i h st => ?_) (fun b hb => ?_) (fun b hb => by simpa using hb) (fun b hb => ?_) ?_ (fun p hp hI => ?_) ?_ (F.push _) (fun p hp => ⟨Heap.get?_push_of_some _ (N p hp).1, (N p hp).2⟩) trivial (rest₀ _ fun p hp => Heap.lt_size (N p hp).1)
  · have hp' : vs.toArray[i]? = some v := hp
    simpa using hp'
  · obtain ⟨it, hit, hic, _⟩ := st.1
    exact ⟨[(s.heap.objs.size, it)], ⟨⟨rfl, hic⟩, trivial⟩, fun p hp => by rw [List.mem_singleton.mp hp]; exact hit⟩
  · have hb' : b = s.heap.objs.size := by simpa using hb
    rw [hb']
    exact ⟨List.mem_cons_self .., next_is_new F⟩
  · have hb' : b = s.heap.objs.size ∨ b = ax := by simpa using hb
    rcases hb' with e | e
    · exact .inl (by simp [e])
    · exact .inr (.inr ⟨lo, by rw [e]; exact hg⟩)
  · intro hI
    rcases List.mem_cons.mp hI with e | hI
    · exact absurd F.ns.lt (e ▸ Nat.lt_irrefl _)
    · have e : env.locals = ax := List.mem_singleton.mp hI
      exact absurd (Heap.lt_size hg) (Nat.not_lt.mpr (e ▸ F.above))
  · exact absurd (Heap.lt_size (N p hp).1) ((List.mem_singleton.mp hI) ▸ Nat.lt_irrefl _)
  · exact ⟨⟨_, Heap.get?_push_size _ rfl, rfl, rfl⟩, hl.at fun o e => Heap.get?_push_of_some _ e⟩
/-- a slice of octets between two places -/
theorem by_slice {value slice : PySem.Expr} {b : Array UInt8} {t ta tb : Tok} {ks : List Int} {news : List (Addr × Obj)} {lo hi : Int} {Q : Value → Shared → Prop} (F : Fr h₀ L s.heap m) (N : News h₀ L s.heap news) (hk : KBw.bInts b = ks) (h0 : 0 ≤ lo) (h1 : lo ≤ hi) (hz : ks.length ≤ 16777216)
    (h : ∀ c h' t' k, Fr h₀ L h' m → News h₀ L h' news → KBw.bInts c = (ks.drop lo.toNat).take (hi - lo).toNat → (c.size : Int) ≤ hi - lo → Q (.bytes c t') { s with heap := h', toks := k })
    (hs : subscripted slice false (.bytes b t) (.ref s.heap.objs.size) = operate [.ref s.heap.objs.size, .bytes b t] (getItem (.bytes b t) (.ref s.heap.objs.size))) (ht : ∀ r, letTemporaryGo value (.bytes b t) r = pure ()) :
    wpAny (model prog w) A (subscriptTail value slice (.bytes b t) (.ref s.heap.objs.size)) Q E { s with heap := s.heap.push { cls := .type "slice", data := .fields #[.int lo ta, .int hi tb, .none] } } := by
  refine KBc.slice_K F N hk (.int _ _) (.int _ _) hz ?_ hs ht
  intro h' t' k F' N' hb
  have e : (ks.drop ((some lo).elim 0 (clipAt ks.length))).take ((some hi).elim ks.length (clipAt ks.length) - (some lo).elim 0 (clipAt ks.length)) = (ks.drop lo.toNat).take (hi - lo).toNat := by
    show (ks.drop (clipAt ks.length lo)).take (clipAt ks.length hi - clipAt ks.length lo) = _
    have c1 : ∀ k : Int, 0 ≤ k → clipAt ks.length k = min k.toNat ks.length := by
      intro k hk
      have : k = ((k.toNat : Nat) : Int) := (Int.toNat_of_nonneg hk).symm
      rw [this, clipAt_nat]
      simp only [Int.toNat_natCast]
    rw [c1 _ h0, c1 _ (by omega)]
    rcases Nat.le_total lo.toNat ks.length with hle | hle
    · rw [Nat.min_eq_left hle]
      apply List.ext_getElem?
      intro i
      rw [List.getElem?_take, List.getElem?_take, List.getElem?_drop]
      by_cases hi1 : i < (hi - lo).toNat
      · by_cases hi2 : i < min hi.toNat ks.length - lo.toNat
        · rw [if_pos hi1, if_pos hi2]
        · rw [if_pos hi1, if_neg hi2, List.getElem?_eq_none (by omega)]
      · rw [if_neg hi1, if_neg (by omega)]
    · rw [Nat.min_eq_right hle, Nat.min_eq_right (by omega), List.drop_eq_nil_of_le (Nat.le_refl _), List.drop_eq_nil_of_le hle]
      simp
  rw [e] at hb
  refine h _ h' t' k F' N' hb ?_
  have := congrArg List.length hb
  rw [KBw.ints_length, List.length_take] at this
  omega

/-- the first so many octets -/
theorem by_slice0 {value slice : PySem.Expr} {b : Array UInt8} {t tb : Tok} {ks : List Int} {news : List (Addr × Obj)} {hi : Int} {Q : Value → Shared → Prop} (F : Fr h₀ L s.heap m) (N : News h₀ L s.heap news) (hk : KBw.bInts b = ks) (h0 : 0 ≤ hi) (hz : ks.length ≤ 16777216)
    (h : ∀ c h' t' k, Fr h₀ L h' m → News h₀ L h' news → KBw.bInts c = ks.take hi.toNat → (c.size : Int) ≤ hi → Q (.bytes c t') { s with heap := h', toks := k })
    (hs : subscripted slice false (.bytes b t) (.ref s.heap.objs.size) = operate [.ref s.heap.objs.size, .bytes b t] (getItem (.bytes b t) (.ref s.heap.objs.size))) (ht : ∀ r, letTemporaryGo value (.bytes b t) r = pure ()) :
    wpAny (model prog w) A (subscriptTail value slice (.bytes b t) (.ref s.heap.objs.size)) Q E { s with heap := s.heap.push { cls := .type "slice", data := .fields #[.none, .int hi tb, .none] } } := by
  refine KBc.slice_K F N hk .none (.int _ _) hz ?_ hs ht
  intro h' t' k F' N' hb
  have e : (ks.drop ((none : Option Int).elim 0 (clipAt ks.length))).take ((some hi).elim ks.length (clipAt ks.length) - (none : Option Int).elim 0 (clipAt ks.length)) = ks.take hi.toNat := by
    show (ks.drop 0).take (clipAt ks.length hi - 0) = _
    have : hi = ((hi.toNat : Nat) : Int) := (Int.toNat_of_nonneg h0).symm
    rw [this, clipAt_nat, List.drop_zero, Nat.sub_zero, Int.toNat_natCast]
    rcases Nat.le_total hi.toNat ks.length with hle | hle
    · rw [Nat.min_eq_left hle]
    · rw [Nat.min_eq_right hle, List.take_length, List.take_of_length_le hle]
  rw [e] at hb
  refine h _ h' t' k F' N' hb ?_
  have := congrArg List.length hb
  rw [KBw.ints_length, List.length_take] at this
  omega
/-- the loop that cuts the parts -/
theorem parts_loop {P : Params} {lc lp : Addr} {nc n₀ : Nat} {es : List CEnt} {ks : List Int} {sec : Int} {m₀ : Str → Option Value} (hh : A.handled = none) (F : Fr h₀ env.locals s.heap m₀)
    (N : News h₀ env.locals s.heap [(lp, listOf #[] n₀)]) (hl : h₀.get? lc = some (listOf (refsOf es).toArray nc)) (hb : ∀ p ∈ bulkOf P es, h₀.get? p.1 = some p.2)
    (turn : ∀ (i : Nat) e bs n' (u : Str → Option Value) h tk I (o : Obj), i < es.length → es[i]? = some e → bIntsOf bs = partsOf ks sec ((es.map CEnt.col).take i) → @LT.lt Nat _ lp I → h₀.get? e.x = some (instObj 70 e.d) → h₀.get? e.d = some (e.dict P) →
      Fr h₀ env.locals h (fun z => if qStored.contains z then u z else m₀ z) → o.cls = .type "list_iterator" → News h₀ env.locals h ((I, o) :: [(lp, listOf (bvals bs).toArray n')]) →
      wpAny (model prog w) A (assign (.Name x px) env (.ref e.x)) (fun _ s₂ => wpAny (model prog w) A (execs body env)
        (UnrPostW h₀ env.locals { s with heap := h, toks := tk } [(I, o)] (fun m' n' => SubL [] n' ∧ PartsJ lp ks sec (es.map CEnt.col) m₀ (i + 1) m' n') Q) E s₂) E { s with heap := h, toks := tk })
    (done : ∀ bs n' (u : Str → Option Value) h tk, bIntsOf bs = partsOf ks sec (es.map CEnt.col) → Fr h₀ env.locals h (fun z => if qStored.contains z then u z else m₀ z) → News h₀ env.locals h [(lp, listOf (bvals bs).toArray n')] → Q .next { s with heap := h, toks := tk }) :
    wpAny (model prog w) A (pyIter (.ref lc)) (fun it s₂ => TurnsAt prog w A h₀ env (.Name x px) body Q E it s₂) E s := by
  refine base_listTurns (lo := listOf (refsOf es).toArray nc) (vs := refsOf es) (n := nc) hh F N hl rfl rfl fun I hI => ?_
  refine items_ind (PartsJ lp ks sec (es.map CEnt.col) m₀) ⟨[], n₀, List.mem_cons_self, rfl, fun _ _ => rfl⟩ ?_ ?_
  · rintro i a m news v h tk hx hv ⟨bs, n', hmem', hc, hm⟩ F₁
    have hi : i < es.length := by
      rcases Nat.lt_or_ge i ((refsOf es).map Itm.val).length with h | h
      · simpa [refsOf] using h
      · rw [List.getElem?_eq_none h] at hx; cases hx
    have hx' : ((refsOf es).map Itm.val)[i]? = some (Itm.val (.ref es[i].x)) := by simp [refsOf, hi]
    rw [hx'] at hx
    cases hx
    have hv' : v = .ref es[i].x := hv
    subst hv'
    rw [fr_none hm] at F₁
    refine AllObj.cons fun o ho => AllObj.nil fun N₁ => ?_
    have hmem : es[i] ∈ es := List.getElem_mem hi
    refine turn i es[i] bs n' m h tk I o hi (List.getElem?_eq_getElem hi) hc (hI _ List.mem_cons_self) (hb _ (List.mem_flatMap.mpr ⟨_, hmem, .head _⟩)) (hb (_, _) (List.mem_flatMap.mpr ⟨_, hmem, .tail _ (.head _)⟩)) F₁ ho fun p hp => N₁ p (by
      rcases List.mem_cons.mp hp with rfl | hp
      · exact .head _
      · rw [List.mem_singleton.mp hp]; exact .tail _ hmem')
  · rintro m news h tk ⟨bs, n', hmem', hc, hm⟩ F₁ N₁
    rw [fr_none hm] at F₁
    rw [List.length_map, refs_len, List.take_of_length_le (by simp)] at hc
    exact done bs n' m h tk hc F₁ fun p hp => N₁ p (by rw [List.mem_singleton.mp hp]; exact hmem')
theorem parts_its {lp I : Addr} {o : Obj} {n' : Nat} {X : Array Value} {h' : Heap} {all : List (Addr × Obj)} (N : News h₀ L h' all) (h1 : (I, o) ∈ all) (ho : o.cls = .type "list_iterator") (h2 : (lp, listOf X n') ∈ all) :
    News h₀ L h' ([(I, o)] ++ [(lp, listOf X n')]) ∧ ∀ p ∈ [(lp, listOf X n')], ∀ q ∈ [(I, o)], p.1 ≠ q.1 := by
  refine ⟨fun p hp => ?_, fun p hp q hq e => ?_⟩
  · rcases List.mem_append.mp hp with hp | hp
    · rw [List.mem_singleton.mp hp]; exact N _ h1
    · rw [List.mem_singleton.mp hp]; exact N _ h2
  · rw [List.mem_singleton.mp hq, List.mem_singleton.mp hp] at e
    have a1 := (N _ h2).1
    have a2 := (N _ h1).1
    have e : lp = I := e
    subst e
    rw [a2] at a1
    cases a1
    exact absurd (Value.type.inj ho) (by decide)
theorem parts_step {ks : List Int} {sec : Int} {es : List CEnt} {e : CEnt} {i : Nat} (he : es[i]? = some e) : partsOf ks sec ((es.map CEnt.col).take (i + 1)) = partsOf ks sec ((es.map CEnt.col).take i) ++ if 0 ≤ e.f then [partAt ks sec e.col] else [] := by
  have : (es.map CEnt.col)[i]? = some e.col := by rw [List.getElem?_map, he]; rfl
  unfold partsOf
  rw [List.take_add_one, this, Option.toList_some, List.filter_append, List.map_append]
  congr 1
  by_cases h : 0 ≤ e.f
  · have h' : 0 ≤ e.col.2.2.2 := h
    rw [if_pos h]; simp [List.filter_cons, h']
  · have h' : ¬ 0 ≤ e.col.2.2.2 := h
    rw [if_neg h]; simp only [List.filter_cons, h', decide_false, Bool.false_eq_true, if_false, List.filter_nil, List.map_nil]
/-- a turn's end: one part more -/
theorem parts_endA {lp : Addr} {ks : List Int} {sec : Int} {es : List CEnt} {e : CEnt} {bs : List (Array UInt8 × Tok)} {c : Array UInt8} {t : Tok} {m₀ m' : Str → Option Value} {i n' : Nat} {k : Int} {news : List (Addr × Obj)}
    (N : (lp, listOf ((bvals bs).toArray.push (Value.bytes (c ++ Array.replicate k.toNat 0) t)) n') ∈ news) (he : es[i]? = some e) (hc : bIntsOf bs = partsOf ks sec ((es.map CEnt.col).take i)) (hf : 0 ≤ e.f)
    (hp : KBw.bInts c = (ks.drop (e.f * sec).toNat).take (e.f * sec + e.m * sec - e.f * sec).toNat) (hk : k = e.m * sec - (c.size : Int)) (hm : ∀ z, qStored.contains z = false → m' z = m₀ z) :
    PartsJ lp ks sec (es.map CEnt.col) m₀ (i + 1) m' news := by
  have hr : (bvals bs).toArray.push (Value.bytes (c ++ Array.replicate k.toNat 0) t) = (bvals (bs ++ [(c ++ Array.replicate k.toNat 0, t)])).toArray := by rw [bvals_app, Array.push_eq_append]; simp [bvals]
  rw [hr] at N
  refine ⟨_, n', N, ?_, hm⟩
  rw [parts_step he, if_pos hf, ← hc]
  show bIntsOf (bs ++ [_]) = _
  unfold bIntsOf
  rw [List.map_append]
  congr 1
  simp only [List.map_cons, List.map_nil]
  rw [KBw.ints_app hp (zeros_ints _)]
  have e1 : e.f * sec + e.m * sec - e.f * sec = e.m * sec := by omega
  rw [e1] at hp ⊢
  unfold partAt
  show [_] = [((ks.drop (e.f * sec).toNat).take (e.m * sec).toNat ++ List.replicate ((e.m * sec).toNat - ((ks.drop (e.f * sec).toNat).take (e.m * sec).toNat).length) 0)]
  have e2 : ((ks.drop (e.f * sec).toNat).take (e.m * sec).toNat).length = c.size := by rw [← hp, KBw.ints_length]
  rw [e2]
  congr 3
  omega
/-- a turn's end: a column of parity -/
theorem parts_endB {lp : Addr} {ks : List Int} {sec : Int} {es : List CEnt} {e : CEnt} {bs : List (Array UInt8 × Tok)} {m₀ m' : Str → Option Value} {i n' : Nat} {news : List (Addr × Obj)}
    (N : (lp, listOf (bvals bs).toArray n') ∈ news) (he : es[i]? = some e) (hc : bIntsOf bs = partsOf ks sec ((es.map CEnt.col).take i)) (hf : ¬ 0 ≤ e.f)
    (hm : ∀ z, qStored.contains z = false → m' z = m₀ z) : PartsJ lp ks sec (es.map CEnt.col) m₀ (i + 1) m' news := by
  refine ⟨_, n', N, ?_, hm⟩
  rw [parts_step he, if_neg hf, List.append_nil]
  exact hc
end
end

/-! ## part T7 -/
section
theorem top_off_T7 : True := by
  w_top off
  trivial
set_option hygiene false
local macro_rules | `(tactic| walk_at "call type:bytes") => `(tactic| (k_here; (with_reducible show wpAny _ _ (call (Value.type "bytes") [Value.bytes _ _]) _ _ _); (refine by_call_bytes ?_)))
local macro_rules | `(tactic| walk_at "call type:bytes") => `(tactic| (k_here; (with_reducible show wpAny _ _ (call (Value.type "bytes") [Value.int _ _]) _ _ _); k_dflt (refine' by_call_zero ?a ?b ?_; (case a => omega); (case b => omega))))
local macro_rules | `(tactic| walk_at "call builtin:len") => `(tactic| (k_here; (with_reducible show wpAny _ _ (call (Value.builtin "len") [Value.bytes _ _]) _ _ _); (refine len_bytes ?_ ?_; (omega))))
local macro_rules | `(tactic| walk_at "binaryOp Add bytes bytes") => `(tactic| (k_here; (with_reducible show wpAny _ _ (binaryOp Operator.Add (Value.bytes _ _) (Value.bytes _ _)) _ _ _); (refine KBy.add_bytes (by (try rw [Array.size_replicate]); omega) ?_); intro _ _))
local macro_rules | `(tactic| walk_at "subscriptTail") => `(tactic| (k_here; (with_reducible show wpAny _ _ (subscriptTail _ (PySem.Expr.Slice _ _ none _) (Value.bytes _ _) (Value.ref _)) _ _ _); k_dflt (refine' by_slice ?F ?N ?k ?a ?b ?z ?_ ?s ?t; (case F => k_asm); (case N => k_asm); (case k => k_asm); (case a => omega); (case b => omega); (case z => omega); (case s => with_unfolding_all rfl); (case t => kmk_pure)); intro c9 h9 t9 k9 F9 N9 hc9 hz9))
local macro_rules | `(tactic| walk_at "exec For Name Name cons nil") => `(tactic| (k_here; (rename Fr _ _ _ _ => lF'); (with_unfolding_all refine' For_turns lF' ?_; k_whole)))
set_option maxRecDepth 100000 in
set_option maxHeartbeats 8000000 in
theorem parts_ct {w : World} {p : Program} {loose : List Str} {mean : ExcName → Option Value} {mg mb : Str → Option Value} {sec slab : Int} {ks : List Int} {es : List CEnt} (h0 : ks.length ≤ 1000) (h1 : es.length ≤ 24) (h2 : 0 < sec) (h3 : sec < 1000)
    (h4 : ∀ e ∈ es, 0 ≤ e.m * sec ∧ e.m * sec ≤ 4000 ∧ (0 ≤ e.f → 0 ≤ e.f * sec ∧ e.f * sec ≤ 4000)) :
    CT PySem.Challenge.rw_np0177_01.row.prog w (hd.heap_39 w.params) p loose mean mg mb 121 5 48 (fun h vs => ∃ sh lc b tb nc, vs = [.bytes b tb, .ref lc, .ref sh] ∧ KBw.bInts b = ks ∧ ShapeIn w.params h sh sec slab ∧ h.get? lc = some (listOf (refsOf es).toArray nc) ∧ ∀ p ∈ bulkOf w.params es, h.get? p.1 = some p.2)
      (fun tl r => ∃ lp bs n, r = .ref lp ∧ tl = [(lp, listOf (bvals bs).toArray n)] ∧ bIntsOf bs = partsOf ks sec (es.map CEnt.col)) := by
  have hfill : PySem.Challenge.rw_np0177_01 = PySem.Challenge.rw_np0177_01 ∧ hd.heap_39 = hd.heap_39 := by k_fill; exact ⟨rfl, rfl⟩
  clear hfill
  unfold CT
  intro dp un gd cn cs a ccd cl outer A₀ base h₀ L m s vs Q E B F X T hk hR hd' hu hret
  obtain ⟨sh, lc, b, tb, nc, rfl, hks, hS, hlc, hbk⟩ := hR
  obtain ⟨d, t1, t2, ts, us, hsh, hdd⟩ := hS
  ktn_open
  rename Fr s.heap _ _ _ => F0
  replace F0 : Fr s.heap _ _ (fun y => List.lookup y [(Str.ofString "shape", Value.ref sh), (Str.ofString "some", .ref lc), (Str.ofString "octets", .bytes b tb)]) := F0
  k_steps
  rename News s.heap _ _ _ => N9
  rename Fr s.heap _ _ _ => F9
  with_unfolding_all refine parts_loop (P := w.params) (es := es) (ks := ks) (sec := sec) (by rfl) F9 N9 hlc hbk ?turn ?done
  case turn =>
    clear N9 F9
    intro i e bs n u hT tkT I o hi he hc hI hx hxd FT ho NT
    have hbl : (bvals bs).length ≤ 24 := by
      rw [bvals_len]
      have := congrArg List.length hc
      simp only [bIntsOf, List.length_map, partsOf] at this
      have h9 := List.length_filter_le (fun c : Col4 => decide (0 ≤ c.2.2.2)) ((es.map CEnt.col).take i)
      rw [List.length_take] at h9
      omega
    obtain ⟨hm0, hm1, hfs⟩ := h4 e (List.mem_of_getElem? he)
    try k_unmd
    try k_fold
    k_steps
    · refine parts_endA (.tail _ (.head _)) he hc (by omega) (by assumption) rfl ?_
      intro z hz
      obtain ⟨z1, z2, z3, z4⟩ := q_off hz
      simp only [if_neg z1, if_neg z2, if_neg z3, if_neg z4, hz, Bool.false_eq_true, if_false]
    · refine parts_endB (.head _) he hc (by omega) ?_
      intro z hz
      obtain ⟨z1, z2, z3, z4⟩ := q_off hz
      simp only [if_neg z1, hz, Bool.false_eq_true, if_false]
  case done =>
    clear N9 F9
    intro bs n u hT tkT hc FT NT
    dsimp only
    try k_unmd
    try k_fold
    k_steps
    refine BEnd.intro (by assumption) (by assumption) ?_
    intro hg9 hm9
    exact hret _ _ _ _ hg9 hm9 ⟨_, bs, n, rfl, rfl, hc⟩
end

/-! ## part T8 -/
section
theorem top_off_T8 : True := by
  w_top off
  trivial
theorem catA_fold : ∀ (bs : List (Array UInt8 × Tok)) (acc : Array UInt8), KBw.bInts ((bs.map (·.1)).foldl (fun x y => x ++ y) acc) = KBw.bInts acc ++ (bIntsOf bs).flatten
  | [], acc => by simp [bIntsOf]
  | p :: r, acc => by
    rw [List.map_cons, List.foldl_cons, catA_fold r (acc ++ p.1), KBw.ints_app rfl rfl]
    simp [bIntsOf]
theorem catA_ints (bs : List (Array UInt8 × Tok)) : KBw.bInts (catA (bs.map (·.1))) = (bIntsOf bs).flatten := by
  rw [catA, catA_fold]; rfl
theorem sizes_fold : ∀ (bs : List (Array UInt8)) (k : Nat), bs.foldl (fun x y => x + y.size) k = k + (bs.map fun b => (KBw.bInts b).length).sum
  | [], k => by simp
  | b :: r, k => by rw [List.foldl_cons, sizes_fold r, List.map_cons, List.sum_cons, KBw.ints_length]; omega
local macro_rules | `(tactic| walk_at "getMethod bytes") => `(tactic| (k_here; (with_reducible show wpAny _ _ (getMethod (Value.bytes _ _) _ _) _ _ _); (refine by_join_method ?_)))
local macro_rules | `(tactic| walk_at "call builtin:bytes.join") => `(tactic| (k_here; (with_reducible show wpAny _ _ (call (Value.builtin "bytes.join") [Value.bytes _ _, Value.ref _]) _ _ _); k_dflt (refine' by_join_call ?a ?b ?c ?_; (case a => exact (‹∀ h', Grew _ h' → h'.IsList _ _›) _ (Fr.keep (by k_asm))); (case b => assumption); (case c => assumption)); intro t9 k9))
local macro_rules | `(tactic| walk_at "subscriptTail") => `(tactic| (k_here; (with_reducible show wpAny _ _ (subscriptTail _ (PySem.Expr.Slice _ _ none _) (Value.bytes _ _) (Value.ref _)) _ _ _); k_dflt (refine' by_slice0 ?F ?N ?k ?a ?z ?_ ?s ?t; (case F => k_asm); (case N => k_asm); (case k => k_asm); (case a => omega); (case z => omega); (case s => with_unfolding_all rfl); (case t => kmk_pure)); intro c9 h9 t9 k9 F9 N9 hc9 hz9))
set_option maxRecDepth 100000 in
set_option maxHeartbeats 8000000 in
theorem joined_ct {w : World} {p : Program} {loose : List Str} {mean : ExcName → Option Value} {mg mb : Str → Option Value} {size : Int} {bs : List (Array UInt8 × Tok)} (h0 : 0 ≤ size) (h1 : size ≤ 1000) (h2 : (bIntsOf bs).flatten.length ≤ 100000) :
    CT PySem.Challenge.rw_np0177_01.row.prog w (hd.heap_39 w.params) p loose mean mg mb 128 2 16 (fun h vs => ∃ lp t n, vs = [.ref lp, .int size t] ∧ h.get? lp = some (listOf (bvals bs).toArray n))
      (fun tl r => tl = [] ∧ ∃ b t, r = .bytes b t ∧ KBw.bInts b = (bIntsOf bs).flatten.take size.toNat) := by
  have hfill : PySem.Challenge.rw_np0177_01 = PySem.Challenge.rw_np0177_01 ∧ hd.heap_39 = hd.heap_39 := by k_fill; exact ⟨rfl, rfl⟩
  clear hfill
  unfold CT
  intro dp un gd cn cs a ccd cl outer A₀ base h₀ L m s vs Q E B F X T hk hR hd' hu hret
  obtain ⟨lp, t, n, rfl, hl⟩ := hR
  have hz : (catA (bs.map (·.1))).size ≤ 16777216 := by rw [← KBw.ints_length, catA_ints]; omega
  have hz2 : ((bs.map (·.1)).toArray.foldl (· + ·.size) 0) ≤ 16777216 := by
    rw [List.foldl_toArray, sizes_fold, List.map_map]
    rw [List.length_flatten, bIntsOf, List.map_map] at h2
    exact Nat.le_trans (by rw [Nat.zero_add]; exact h2) (by decide)
  have hk9 := catA_ints bs
  have hlist : ∀ h', Grew s.heap h' → h'.IsList lp (bvals bs).toArray := fun h' g => ⟨_, g _ _ hl, rfl, n, rfl⟩
  ktn_open
  k_steps
  refine BEnd.intro (by assumption) (by assumption) ?_; intro hg9 hm9; (try dsimp only); refine hret _ [] _ _ hg9 (fun _ h9 => nomatch h9) ⟨rfl, _, _, rfl, by assumption⟩
end

/-! ## part Exc -/
section
open Builtin
set_option maxRecDepth 100000
local macro_rules | `(tactic| walk_at "no such place") => `(tactic| skip)
theorem top_off_Exc : True := by
  w_top off
  trivial
/-- an exception of a class of our own has been made, with a dict of its own -/
structure NewOwn (h h' : Heap) (e C : Addr) : Prop where
  keeps : ∀ b o, h.get? b = some o → h'.get? b = some o
  new : h.get? e = none
  there : ∃ dd t, h'.get? e = some { cls := .ref C, dict := dd, data := .fields #[t, .none, .none, .none, .bool false, .none] }
/-- a def's end where the ground hides what stood in the ledger -/
noncomputable def GEnd (g : Heap) (Q : Value → Shared → Prop) (v : Value) (s' : Shared) : Prop :=
  ∃ L' m' news', Fr g L' s'.heap m' ∧ News g L' s'.heap news' ∧ Q v s'
section
variable {prog : Program} {w : World} {A₀ A : Around} {s : Shared} {base h₀ : Heap} {outer : List Env} {L : Addr} {m : Str → Option Value} {env : Env} {K : Frag} {p : Program} {loose : List Str} {mean : ExcName → Option Value} {mg mb : Str → Option Value}
  {name qual : Str} {params : Arguments} {body : List Stmt} {scope : Scope} {dV kV doc pm cdv ct oc : Value} {an od : Option Addr} {osl : Array (Option Value)} {f : Addr} {args : Args} {binds : List (Str × Value)} {Q E : Value → Shared → Prop} {news : List (Addr × Obj)}
theorem b_defN (B : Below A₀ base outer h₀) (F : Fr h₀ L s.heap m) (N : News h₀ L s.heap news) (X₀ : K.In h₀) (T : Top p loose mean mg mb h₀) (hA : A.frames = some (env :: outer)) (hf : env.frame = some L) (hke : env.scope.kind = .function)
    (ho : K.lookup f = some ⟨oc, od, .func (fnOf name qual params body scope dV kV doc pm an cdv ct), osl⟩) (hcd : codeIn K cdv qual = true) (hroom : A.depth < recursionLimit)
    (hbind : BindsTo s (fnOf name qual params body scope dV kV doc pm an cdv ct) args binds) (hloc : ∀ y ∈ binds, scope.names.lookup y.1 = some .local)
    (h : ∀ g L' h₁ tk, g = hideAll s.heap (news.map (·.1)) → Fr g L' h₁ (fun y => binds.reverse.lookup y) → News g L' h₁ news → Below A base (env :: outer) g → K.In g → Top p loose mean mg mb g →
      wpAny (model prog w) (A.deeper (envOf qual scope L' f cdv)) (execs body (envOf qual scope L' f cdv))
        (fun fl s' => GEnd g Q (match fl with | .ret v => v | _ => .none) s')
        (fun e s' => wpAny (model prog w) (A.deeper (envOf qual scope L' f cdv)) (leaving (envOf qual scope L' f cdv) e) (fun _ s'' => E e s'') (fun e' s'' => E e' s'') s')
        { s with heap := h₁, toks := tk })
    (hco : scope.isCoroutine = false) (hgen : scope.isGenerator = false) (hk : scope.kind = .function)
    (hcell : ∀ x ∈ scope.names, x.2 ≠ .cell) : wpAny (model prog w) A (call (.ref f) args.pos args.kw) Q E s := by
  refine wpAny_call ?_
  obtain ⟨FG, BG, st, lv⟩ := groundX (R := RetTo Q E) B F N hA hf hke
  refine codeAny_call_def (fd := fnX name qual params body scope [] dV kV doc pm an cdv ct) (body := body) (binds := binds) hroom ((X₀.keeps F.keep) _ _ ho) rfl (T.nolimit.keeps F.keep) (codeRec_of (X₀.keeps F.keep) hcd) rfl hbind hcell hloc (fun h₁ hns hk₁ => ?_) hco hgen hk
  refine wpAny_mono (h _ s.heap.objs.size h₁ _ rfl ⟨hns, fun b o e => hk₁ b o (of_hideAll _ e), Nat.le_of_eq (hideAll_size _ _)⟩
    (fun q hq => ⟨hk₁ _ _ (N q hq).1, Nat.ne_of_lt (Heap.lt_size (N q hq).1), hideAll_none _ (List.mem_map_of_mem hq)⟩) BG (X₀.keeps st) (T.keeps st)) (fun fl s' hl => ?_) fun _ _ y => y
  obtain ⟨_, _, _, _, _, q⟩ := hl
  exact q
end
section
variable {prog : Program} {w : World} {A : Around} {R : Result → Shared → Prop} {h : Heap} {g : Array GenState} {d : Drawn} {t : Nat} {os : OsState}
variable {nm q : Str} {C N : Addr} {bs bm bmN : List Value} {hdct : Bool} {sn : List Str} {sub : List Value} {ab : Bool} {col : Option Bool} {dd : Option Addr} {k0 k1 k2 k3 k5 : Option Value} {Bn newId inN : String}
/-- an exception's __new__ for a class whose own classes may say __init__ -/
theorem exc_new (Fn : ExcBaseFacts Bn newId inN bmN) (hB : bm.contains (.type Bn) = true) (hA : bm.contains (.type "AttributeError") = false) (hN : bm.contains (.type "NameError") = false) {rest : List Value}
    (hC : h.get? C = some (excClassObj nm q C N bs bm hdct sn sub ab col dd k0 k1 k2 k3 k5 newId))
    (hq : R (.ok (.ret (.ref (h.objs.size + 1)))) ⟨(h.push { cls := .type "tuple", data := .seq rest.toArray }).push
      { cls := .ref C, data := .fields #[.ref h.objs.size, .none, .none, .none, .bool false, .none] }, g, d, t, os⟩) (hrest : rest.length ≤ sizeLine) :
    codeAny (model prog w) A (.builtin newId ⟨.ref C :: rest, []⟩) R ⟨h, g, d, t, os⟩ := by
  have hends := Fn.ends
  have c1 : (Value.ref C :: bm).contains (.type Bn) = true := by rw [List.contains_cons, hB, Bool.or_true]
  have c2 : (Value.ref C :: bm).contains (.type "AttributeError") = false := by rw [List.contains_cons, hA]; rfl
  have c3 : (Value.ref C :: bm).contains (.type "NameError") = false := by rw [List.contains_cons, hN]; rfl
  refine codeAny_builtinAt Fn.entry ?_
  unfold Builtin.«BaseException.__new__»
  refine PySem.wpAt_bind ?_
  show PySem.wpAt _ _ _ (stack >>= _) _ _ _
  refine PySem.wpAt_bind (PySem.wpAt_stack fun p below => PySem.wpAt_of_wpAny ?_)
  wp_walk
  refine PySem.wpAt_of_wpAny ?_
  rw [Fn.owner]
  repeat (first | with_reducible refine wpAny_madeHere_exc Fn.canon hC ?_ | with_reducible refine wpAny_loadPart_at hC ?_ | (with_reducible refine wpAny_isSubtype_exc hC ?_; first | rw [c1] | rw [c2] | rw [c3]) | wp_step)
  show R _ _
  rw [Heap.size_push]
  exact hq
end
section
variable {prog : Program} {w : World} {A : Around} {E : Value → Shared → Prop} {h : Heap} {g : Array GenState} {d : Drawn} {t : Nat} {os : OsState}
variable {nm q : Str} {C N : Addr} {bs bm bmN : List Value} {hdct : Bool} {sn : List Str} {sub : List Value} {ab : Bool} {col : Option Bool} {dd : Option Addr} {k0 k1 k2 k3 k5 : Option Value} {Bn newId inN : String}
theorem exc_tcall (Fn : ExcBaseFacts Bn newId inN bmN) (hB : bm.contains (.type Bn) = true) (hA : bm.contains (.type "AttributeError") = false) (hN : bm.contains (.type "NameError") = false) {rest : List Value} {fI : Addr} {oI : Obj} {Q : PySem.Fin → Shared → Prop}
    (hC : h.get? C = some (excClassObj nm q C N bs bm hdct sn sub ab col dd k0 k1 k2 k3 k5 newId)) (hi : Looks (model prog w) h (typeLookup (.ref C) "__init__") (some (.ref fI)))
    (hfI : h.get? fI = some oI) (hfc : oI.cls = .type "function") (hrest : rest.length ≤ sizeLine)
    (hq : wpAny (model prog w) A (call (.ref fI) (.ref (h.objs.size + 1) :: rest)) (fun r s' => r = .none ∧ Q (.done (.ret (.ref (h.objs.size + 1)))) s') E
      ⟨(h.push { cls := .type "tuple", data := .seq rest.toArray }).push { cls := .ref C, data := .fields #[.ref h.objs.size, .none, .none, .none, .bool false, .none] }, g, d, t, os⟩) :
    wpAny (model prog w) A (Builtin.«type.__call__» ⟨.ref C :: rest, []⟩) Q E ⟨h, g, d, t, os⟩ := by
  repeat (first | with_reducible refine wpAny_loadPart_at hC ?_ | with_reducible refine wpAny_madeBy_exc hC ?_ | wp_step)
  refine codeAny_call_builtin_code (Code.quiet_builtin _ Fn.quiet) (wpAny_check_new_subU Fn hB OwnTail.base hC ?_)
  refine exc_new Fn hB hA hN hC ?_ hrest
  show wpAny _ _ _ _ _ _
  have up : ∀ b o, h.get? b = some o → ((h.push { cls := .type "tuple", data := .seq rest.toArray }).push { cls := .ref C, data := .fields #[.ref h.objs.size, .none, .none, .none, .bool false, .none] }).get? b = some o :=
    fun b o e => Heap.get?_push_of_some _ (Heap.get?_push_of_some _ e)
  have hget : ((h.push { cls := .type "tuple", data := .seq rest.toArray }).push { cls := .ref C, data := .fields #[.ref h.objs.size, .none, .none, .none, .bool false, .none] }).get? (h.objs.size + 1) = some
      { cls := .ref C, data := .fields #[.ref h.objs.size, .none, .none, .none, .bool false, .none] } := by heap_get
  have hcC : (Value.ref C :: bm).contains (.ref C) = true := by simp
  unfold isInstance
  repeat (first | with_reducible refine wpAny_loadPart_at hget ?_ | (with_reducible refine wpAny_isSubtype_exc (up _ _ hC) ?_; rw [hcC]) | wp_step)
  show wpAny _ _ (typeLookup (.ref C) _) _ _ _
  refine hi _ _ _ _ up (wpAny_holding (wpAny_bind ?_))
  unfold bindSpecial
  refine wpAny_bind (wpAny_typeOf (T := "function") ⟨_, up _ _ hfI, hfc⟩ ?_)
  rw [if_pos (by decide)]
  refine wpAny_pure (wpAny_bind (wpAny_mono hq (fun r s' hr => ?_) fun _ _ x => x))
  obtain ⟨rfl, hQ⟩ := hr
  wp_walk
  exact hQ
theorem exc_call (Fn : ExcBaseFacts Bn newId inN bmN) (hB : bm.contains (.type Bn) = true) (hA : bm.contains (.type "AttributeError") = false) (hN : bm.contains (.type "NameError") = false) {rest : List Value} {fI : Addr} {oI : Obj} {Q : Value → Shared → Prop}
    (hC : h.get? C = some (excClassObj nm q C N bs bm hdct sn sub ab col dd k0 k1 k2 k3 k5 newId)) (hi : Looks (model prog w) h (typeLookup (.ref C) "__init__") (some (.ref fI)))
    (hfI : h.get? fI = some oI) (hfc : oI.cls = .type "function") (hrest : rest.length ≤ sizeLine)
    (hq : wpAny (model prog w) (A.under (.builtin "type.__call__" ⟨.ref C :: rest, []⟩)) (call (.ref fI) (.ref (h.objs.size + 1) :: rest)) (fun r s' => r = .none ∧ Q (.ref (h.objs.size + 1)) s') E
      ⟨(h.push { cls := .type "tuple", data := .seq rest.toArray }).push { cls := .ref C, data := .fields #[.ref h.objs.size, .none, .none, .none, .bool false, .none] }, g, d, t, os⟩) :
    wpAny (model prog w) A (call (.ref C) rest) Q E ⟨h, g, d, t, os⟩ := by
  have f1 := tc_lookup
  have f2 := tc_bind (.ref C)
  have hT : (⟨h, g, d, t, os⟩ : Shared).TypeIs (.ref C) "type" := ⟨_, hC, rfl⟩
  refine wpAny_call (codeAny_of_tree ?_)
  show wpAny _ _ (callAny (.ref C) _) _ _ _
  repeat (any_goals (first | assumption | with_reducible refine wpAny_loadPart_at hC ?_ | wp_step))
  refine ⟨rfl, ?_⟩
  exact codeAny_call_builtin_at (Code.quiet_builtin _ (by decide +kernel)) entry_typeCall (wpAny_check_type_call_sub hC (exc_tcall Fn hB hA hN hC hi hfI hfc hrest hq))
end
open Builtin.ObjectAttr in
section
variable {prog : Program} {w : World} {A : Around} {E : Value → Shared → Prop} {s : Shared} {K : Frag} {g₀ : Heap} {L e C : Addr} {m : Str → Option Value} {pre post : List (Addr × Obj)} {t0 : Addr}
noncomputable abbrev excObj (C : Addr) (dd : Option Addr) (t : Value) : Obj := { cls := .ref C, dict := dd, data := .fields #[t, .none, .none, .none, .bool false, .none] }
theorem exc_check {M : Model} {h : Heap} {g : Array GenState} {d : Drawn} {tk : Nat} {os : OsState} {nm q : Str} {N : Addr} {bs bm : List Value} {hdct : Bool} {sn : List Str} {sub : List Value} {ab : Bool} {col : Option Bool} {dd : Option Addr} {k0 k1 k2 k3 k5 : Option Value} {newId : String}
    {oe : Obj} {rest : List Value} {Q : Unit → Shared → Prop} (hB : bm.contains (.type "Exception") = true) (hC : h.get? C = some (excClassObj nm q C N bs bm hdct sn sub ab col dd k0 k1 k2 k3 k5 newId)) (he : h.get? e = some oe) (hc : oe.cls = .ref C)
    (hq : Q () ⟨h, g, d, tk, os⟩) : wpAny M A (checkBuiltinCall "Exception.__init__" ⟨.ref e :: rest, []⟩) Q E ⟨h, g, d, tk, os⟩ := by
  have X := PySem.F.excBase_Exception
  have hs := X.noStar
  have c1 : (Value.ref C :: bm).contains (.type "Exception") = true := by rw [List.contains_cons, hB, Bool.or_true]
  simp only [checkBuiltinCall, X.initKind, X.initSplit, X.initRow]
  repeat (first | (with_reducible refine wpAny_loadPart_at he ?_; rw [hc]) | with_reducible refine wpAny_loadPart_at hC ?_ | (with_reducible refine wpAny_isSubtype_exc hC ?_; rw [c1]) | wp_step)
  refine wpAny_onRaise ?_
  rw [show ∀ (a b : String) (n : Nat), Bind.check ⟨.positional, "*", "Exception", .self, [⟨"args", .varPos, false⟩]⟩ a b n (List.map (fun x => x.fst) ({ pos := .ref e :: rest } : Args).kw) = pure () from
    fun a b n => check_star_args _ _ _ _ _ _]
  exact wpAny_pure hq
theorem exc_put (C k t0 : Addr) : Obj.mapFields (·.setIfInBounds 0 (.ref k)) (excObj C none (.ref t0)) = excObj C none (.ref k) := rfl
theorem exc_free (C k : Addr) : (excObj C none (.ref k)).isFreed = false := rfl
/-- Exception's own __init__, called by name -/
theorem exc_init {v : Value} {Q : Value → Shared → Prop} (F : Fr g₀ L s.heap m) (N : News g₀ L s.heap (pre ++ (e, excObj C none (.ref t0)) :: post)) (X₀ : K.In g₀) (hK : ktsIn K C "Exception" = true) (h1 : ∀ p ∈ pre, p.1 ≠ e) (h2 : ∀ p ∈ post, p.1 ≠ e)
    (h : ∀ h' t1, Fr g₀ L h' m → News g₀ L h' (pre ++ (e, excObj C none (.ref t1)) :: post) → Q .none { s with heap := h' }) :
    wpAny (model prog w) A (call (.builtin "Exception.__init__") [.ref e, v]) Q E s := by
  have X := PySem.F.excBase_Exception
  have he := (N (e, excObj C none (.ref t0)) (by simp)).1
  obtain ⟨nm, q, Nn, bs, bm, hdct, sn, sub, ab, col, dd, k0, k1, k2, k3, k5, newId, hC, hbase, hbT⟩ := kts_cls (X₀.keeps F.keep) hK
  refine wpAny_call (codeAny_call_builtin X.init.plain X.initEntry (exc_check hbT hC he rfl ?_))
  have N₁ : News g₀ L (s.heap.push { cls := .type "tuple", data := .seq #[v] }) (pre ++ (e, excObj C none (.ref t0)) :: post) := News.pushKeep N _
  obtain ⟨U1, U2⟩ := news_upd (f := Obj.mapFields (·.setIfInBounds 0 (.ref s.heap.objs.size))) (o' := excObj C none (.ref s.heap.objs.size)) (F.push _) N₁ h1 h2 (exc_put _ _ _) (exc_free _ _)
  obtain ⟨hh, g, d, tk, os⟩ := s
  wp_walk
  exact h _ _ U1 U2
theorem exc_osa {v : Value} {name : Str} {tk : Tok} {t : Value} {hx : Heap} {g : Array GenState} {d : Drawn} {tk0 : Nat} {os : OsState} {R : Result → Shared → Prop} {mro : List Value} (X : K.In hx) (he : hx.get? e = some (excObj C none t)) (hm : (clsIn K C).any (fun cd => cd.hasDict && !cd.mro.isEmpty) = true)
    (hcd : (clsIn K C).map (·.mro) = some mro) (ho : mro.contains (.type "object") = true) (hr : refuseLoop (.ref e) "__setattr__" mro = pure ()) (ht : takerIn K C name = some none)
    (h : ∀ h' tk', (∀ b o, b ≠ e → hx.get? b = some o → h'.get? b = some o) → (∃ dd, h'.get? e = some (excObj C dd t)) → R (.ok (.ret .none)) ⟨h', g, d, tk', os⟩) :
    codeAny (model prog w) A (.call (.builtin "object.__setattr__") ⟨[.ref e, .str name tk, v], []⟩) R ⟨hx, g, d, tk0, os⟩ := by
  have SF := PySem.F.store_object
  have I : InstAt hx e (excObj C none t) C none := ⟨he, rfl, rfl, trivial⟩
  obtain ⟨cd, hc, hcm⟩ := any_some hm
  rw [Bool.and_eq_true, Bool.not_eq_true'] at hcm
  obtain ⟨hdct, ne⟩ := hcm
  rw [hc] at hcd
  have hcd : cd.mro = mro := Option.some.inj hcd
  have sub : Looks (model prog w) hx (isInstance (.ref e) (.type "object")) true := I.type.andThen (looks_mroIn X (by unfold mroIn; rw [hc, Option.bind_some, if_neg (by rw [ne]; decide), hcd, ho]))
  refine codeAny_call_builtin SF.slot.plain SF.entry (@check_slot (model prog w) _ _ _ "object.__setattr__" "object" "__setattr__" (.ref e) [.str name tk, v] [] _ SF.kind SF.split sub (SF.args (.ref e) (.str name tk) v) ?_)
  obtain ⟨attr, ha, hr'⟩ := Option.bind_eq_some_iff.mp ht
  have hmm : Looks (model prog w) hx (mroOf (.ref C)) cd.mro := (looks_clsIn X hc).andThen .now
  have L3 : Looks (model prog w) hx (storeTaker? attr) none := by
    cases attr with
    | none => cases hr'; exact .now
    | some a =>
      obtain ⟨b, hb, hbb⟩ := Option.map_eq_some_iff.mp hr'
      refine (looks_takesIn X hb).andThen ?_
      cases b <;> first | exact .now | cases hbb
  rw [osa_eq, refuse_eq]
  refine wpAny_bind (wpAny_bind (I.type.here (wpAny_bind (hmm.here ?_))))
  rw [hcd, hr]
  refine wpAny_pure (wpAny_bind (I.type.here (wpAny_bind ((looks_findIn X ha).here (wpAny_bind (L3.here ?_))))))
  dsimp only
  refine wpAny_bind (wpAny_pure (wpAny_bind (wpAny_bind (wpAny_loadPart he (wpAny_bind ((looks_clsIn X hc).here ?_))))))
  rw [hdct]
  show wpAny _ _ (alloc { cls := .type "dict", data := .dict #[] } >>= _) _ _ _
  have hlt := Heap.lt_size he
  have hes : e ≠ hx.objs.size := Nat.ne_of_lt hlt
  have he₁ : (hx.push { cls := .type "dict", data := .dict #[] }).get? e = some (excObj C none t) := Heap.get?_push_of_some _ he
  refine wpAny_bind (wpAny_alloc ?_)
  refine wpAny_bind (wpAny_update he₁ ?_)
  refine wpAny_pure ?_
  show wpAny _ _ (storeInDict hx.objs.size (.str name tk) name v) _ _ _
  have hgd : ((hx.push { cls := .type "dict", data := .dict #[] }).update e fun o => { cls := o.cls, dict := some hx.objs.size, data := o.data, slots := o.slots }).get? hx.objs.size = some { cls := .type "dict", data := .dict #[] } :=
    (Heap.get?_update_ne _ _ _ _ hes.symm).trans (Heap.get?_push_at rfl rfl)
  have hnd : ((hx.push { cls := .type "dict", data := .dict #[] }).update e fun o => { cls := o.cls, dict := some hx.objs.size, data := o.data, slots := o.slots }).Ns hx.objs.size (fun _ => none) :=
    ⟨_, #[], _, hgd, rfl, fun e he => absurd he (by simp), fun _ => rfl⟩
  unfold storeInDict newKeyGuard
  refine wpAny_bind (wpAny_pure (wpAny_bind (wpAny_nsSet1 (Heap.Ns1.of_empty hnd) fun h' hn' hs => ?_)))
  obtain ⟨oD, esD, epD, hoD, hdD, hcD⟩ := hn'.count (Within.cons name v Within.nil)
  refine wpAny_bind (wpAny_lookBehind hoD (by rw [hdD]; exact pastItsLine_dict (Nat.le_trans hcD (by rw [List.length_cons, List.length_nil, sizeLine_eq]; omega))) ?_)
  refine wpAny_pure (h h' _ (fun b o hb eb => ?_) ⟨some hx.objs.size, ?_⟩)
  · exact (hs.2 b (Nat.ne_of_lt (Heap.lt_size eb))).trans ((Heap.get?_update_ne _ _ _ _ hb).trans (Heap.get?_push_of_some _ eb))
  · exact (hs.2 e hes).trans (Heap.get?_update_self _ he₁ rfl)
theorem exc_set {v : Value} {name : Str} {t : Value} {mro : List Value} {Q : Unit → Shared → Prop} (F : Fr g₀ L s.heap m) (N : News g₀ L s.heap (pre ++ (e, excObj C none t) :: post)) (X₀ : K.In g₀)
    (hm : (clsIn K C).any (fun cd => cd.hasDict && !cd.mro.isEmpty) = true) (hcd : (clsIn K C).map (·.mro) = some mro) (ho : mro.contains (.type "object") = true) (hr : refuseLoop (.ref e) "__setattr__" mro = pure ()) (ht : takerIn K C name = some none)
    (hs : findIn K (.ref C) "__setattr__" = some (some (.builtin "object.__setattr__")))
    (h : ∀ h' tk' dd, Fr g₀ L h' m → News g₀ L h' [(e, excObj C dd t)] → Q () { s with heap := h', toks := tk' }) : wpAny (model prog w) A (setAttr (.ref e) name v) Q E s := by
  obtain ⟨e1, e2, e3⟩ := N (e, excObj C none t) (by simp)
  refine set_plain (X₀.keeps F.keep) (I := (⟨e1, rfl, rfl, trivial⟩ : InstAt s.heap e (excObj C none t) C none)) hs ?_
  refine exc_osa (X₀.keeps F.keep) e1 hm hcd ho hr ht fun h' tk' k1 k2 => ?_
  obtain ⟨dd, k2⟩ := k2
  have ne : ∀ b o, g₀.get? b = some o → b ≠ e := fun b o q z => by rw [z, e3] at q; cases q
  obtain ⟨oL, es, ep, hL, hr⟩ := F.ns
  refine h h' tk' dd ⟨⟨oL, es, ep, k1 _ _ (Ne.symm e2) hL, hr⟩, fun b o q => k1 b o (ne b o q) (F.keep b o q), F.above⟩ fun p hp => ?_
  rw [List.mem_singleton.mp hp]
  exact ⟨k2, e2, e3⟩
theorem pass_two {e a b : Addr} : refuseLoop (.ref e) "__setattr__" [.ref a, .ref b, .type "Exception", .type "BaseException", .type "object"] = pure () := by
  rw [refuseLoop_ref, refuseLoop_ref]
  exact PySem.F.store_Exception.passes _
end
section
variable {M : Model} {A : Around} {E : Value → Shared → Prop} {s : Shared} {env : Env}
variable {nm q : Str} {C N : Addr} {bs bm : List Value} {hdct : Bool} {sn : List Str} {sub : List Value} {ab : Bool} {col : Option Bool} {dd : Option Addr} {k0 k1 k2 k3 k5 : Option Value} {newId : String}
theorem exc_raiseStmt {x : Sem Value} {Q : Flow → Shared → Prop} (hbase : bm.contains (.type "BaseException") = true) (hh : A.handled = none)
    (h : wpAny M A x (fun v s₁ => ∃ e d' t, v = .ref e ∧ s₁.heap.get? C = some (excClassObj nm q C N bs bm hdct sn sub ab col dd k0 k1 k2 k3 k5 newId) ∧ s₁.heap.get? e = some (excObj C d' t) ∧ E (.ref e) s₁) E s) :
    wpAny M A (raiseStmt env (some x) none) Q E s := by
  have c1 : (Value.ref C :: bm).contains (.type "BaseException") = true := by rw [List.contains_cons, hbase, Bool.or_true]
  unfold raiseStmt
  refine wpAny_bind (wpAny_mono h (fun v s₁ h₁ => ?_) fun _ _ x => x)
  obtain ⟨e, d', t, rfl, hC, he, hE⟩ := h₁
  obtain ⟨hp, g, d, tk, os⟩ := s₁
  repeat (first | with_reducible refine wpAny_loadPart_at he ?_ | with_reducible refine wpAny_loadPart_at hC ?_ | (with_reducible refine wpAny_isSubtype_exc hC ?_; rw [c1]) | wp_step)
  exact wpAny_raiseNew_none hh hE
end
section
variable {prog : Program} {w : World} {A : Around} {E : Value → Shared → Prop} {s : Shared} {env : Env} {K : Frag} {g₀ : Heap} {L : Addr} {m : Str → Option Value}
variable {nm q : Str} {C N : Addr} {bs bm bmN : List Value} {hdct : Bool} {sn : List Str} {sub : List Value} {ab : Bool} {col : Option Bool} {dd : Option Addr} {k0 k1 k2 k3 k5 : Option Value} {Bn newId inN : String}
/-- «raise C(arg)» for a class of our own whose __init__ is a def -/
theorem exc_raise (Fn : ExcBaseFacts Bn newId inN bmN) (hB : bm.contains (.type Bn) = true) (hA : bm.contains (.type "AttributeError") = false) (hN : bm.contains (.type "NameError") = false) (hbase : bm.contains (.type "BaseException") = true)
    (hK : K.lookup C = some (excClassObj nm q C N bs bm hdct sn sub ab col dd k0 k1 k2 k3 k5 newId)) {fI : Addr} {oI : Obj} (hi : findIn K (.ref C) "__init__" = some (some (.ref fI))) (hfI : K.lookup fI = some oI) (hfc : oI.cls = .type "function")
    {x : Str} {np cpos pos : Pos} {arg : Expr} {Q : Flow → Shared → Prop} (hh : A.handled = none) (hplain : (backTo cpos (starEach [arg] env)).any (·.1) = false)
    (h : wpAny (model prog w) A (eval (.Name x np) env) (fun f s₁ => f = .ref C ∧ wpAny (model prog w) A (evalArgs (.ref C) true (backTo cpos (starEach [arg] env)) [])
      (fun a s₂ => ∃ v, a = ⟨[v], []⟩ ∧ K.In s₂.heap ∧ wpAny (model prog w) (A.under (.builtin "type.__call__" ⟨.ref C :: [v], []⟩)) (call (.ref fI) [.ref (s₂.heap.objs.size + 1), v])
        (fun r s₃ => r = .none ∧ K.In s₃.heap ∧ (∃ d' t, s₃.heap.get? (s₂.heap.objs.size + 1) = some (excObj C d' t)) ∧ E (.ref (s₂.heap.objs.size + 1)) s₃) E
        { s₂ with heap := (s₂.heap.push { cls := .type "tuple", data := .seq #[v] }).push (excObj C none (.ref s₂.heap.objs.size)) }) E s₁) E s) :
    wpAny (model prog w) A (exec (.Raise (some (.Call (.Name x np) [arg] [] cpos)) none pos) env) Q E s := by
  rw [arm_exec_Raise]
  simp only [evalOpt, Option.map]
  refine wpAny_bind (wpAny_standAt (exc_raiseStmt (C := C) (nm := nm) (q := q) (N := N) (bs := bs) (bm := bm) (hdct := hdct) (sn := sn) (sub := sub) (ab := ab) (col := col) (dd := dd) (k0 := k0) (k1 := k1) (k2 := k2) (k3 := k3) (k5 := k5) (newId := newId) hbase hh ?_))
  refine wpAny_bind (wpAny_mono (wpAny_Call_ofName (wpAny_mono h (fun f s₁ h₁ => ?_) fun _ _ x => x)) (fun v s₃ h₃ => wpAny_bind (wpAny_standAt (wpAny_pure h₃))) fun _ _ x => x)
  obtain ⟨rfl, h₁⟩ := h₁
  unfold callWith
  refine wpAny_bind (wpAny_holding (wpAny_mono h₁ (fun a s₂ h₂ => wpAny_bind (wpAny_standAt ?_)) fun _ _ x => x))
  obtain ⟨v, rfl, X, h₂⟩ := h₂
  obtain ⟨hp, g, d, tk, os⟩ := s₂
  have hC := X _ _ hK
  simp only [hplain]
  refine wpAny_bind (wpAny_keeperOf_exc hC ?_)
  refine wpAny_bind (exc_call Fn hB hA hN hC (looks_findIn X hi) (X _ _ hfI) hfc (by rw [sizeLine_eq]; simp) (wpAny_mono h₂ (fun r s₃ h₃ => ?_) fun _ _ x => x))
  obtain ⟨h0, X₃, ⟨d', t, he⟩, hE⟩ := h₃
  exact ⟨h0, wpAny_bind (wpAny_holding (wpAny_point (wpAny_pure ⟨_, d', t, rfl, X₃ _ _ hK, he, hE⟩)))⟩
end
end

/-! ## part Ctr -/
section
set_option maxRecDepth 100000
local macro_rules | `(tactic| walk_at "no such place") => `(tactic| skip)
local macro_rules | `(tactic| walk_at "no such place") => `(tactic| skip)
theorem top_off_Ctr : True := by
  w_top off
  trivial
/-- a contract of a call that always raises an exception of the class C -/
noncomputable def CTR (prog : Program) (w : World) (K : Frag) (p : Program) (loose : List Str) (mean : ExcName → Option Value) (mg mb : Str → Option Value) (C : Addr) (f : Addr) (deep units : Nat) (Pre : Heap → List Value → Prop) : Prop :=
  ∀ (dp un : Nat) (gd : Option (List Code)) (cn : Str) (cs : Scope) (a : Addr) (ccd : Value) (cl : List (Str × Addr)) (outer : List Env) (A₀ : Around) (base h₀ : Heap) (L : Addr) (m : Str → Option Value) (s : Shared) (vs : List Value)
    (Q E : Value → Shared → Prop),
    Below A₀ base outer h₀ → Fr h₀ L s.heap m → K.In h₀ → Top p loose mean mg mb h₀ → cs.kind = .function → Pre s.heap vs → dp + deep < recursionLimit → un + units < cLine →
    (∀ e h' tk', RaisedSN base s.heap (envX cn cs L a ccd cl :: outer) e (.ref C) [] h' → s.heap.UpToSlots h' → E (.ref e) { s with heap := h', toks := tk' }) →
    wpAny (model prog w) (ktrTop dp un gd cn cs L a ccd cl outer) (call (.ref f) vs) Q E s
section
variable {M : Model} {A : Around} {E : Value → Shared → Prop} {s' : Shared} {base g g₂ h : Heap} {outer : List Env} {L a e C : Addr} {m : Str → Option Value} {name : Str} {scope : Scope} {cd : Value} {Q : Unit → Shared → Prop}
/-- the frame where an exception of our own is raised is left -/
theorem leave_own (K : Below A base outer g) (hx : NewOwn h s'.heap e C) (F : Fr g L h m)
    (hQ : ∀ h', RaisedSN base g outer e (.ref C) [] h' → g.UpToSlots h' → Q () { s' with heap := h' }) (hk : scope.kind = .function) :
    wpAny M (A.deeper (envOf name scope L a cd)) (leaving (envOf name scope L a cd) (.ref e)) Q E s' := by
  have K' := K.push (name := name) (a := a) (cd := cd) F hk
  let fs := (envOf name scope L a cd :: outer).filterMap (·.frame)
  have hin : ∀ env ∈ (envOf name scope L a cd :: outer), ∀ b, env.frame = some b → b ∈ fs := fun env he b hb => List.mem_filterMap.mpr ⟨env, he, hb⟩
  have st : base.StaysIn (hideAll h fs) := fun b o q => hideAll_get _ (K'.stays b o q) fun hm => by
    rw [(K'.frames.mem hm).1] at q; cases q
  have sg : ∀ b o, g.get? b = some o → b ∉ outer.filterMap (·.frame) → (hideAll h fs).get? b = some o := fun b o q nm => hideAll_get _ (F.keep b o q) fun hm => by
    rcases kts_mem hm with z | z
    · rw [z, kts_self F] at q; cases q
    · exact nm z
  obtain ⟨dd, t, he⟩ := hx.there
  have hen : (hideAll h fs).get? e = none := by
    cases q : (hideAll h fs).get? e with
    | none => rfl
    | some o => have := of_hideAll _ q; rw [hx.new] at this; cases this
  refine wpAny_leaving_firstW (a0 := t) K'.stack ((funFrames_hide K'.frames hin).of_keeps fun b o hb _ => ⟨o, hx.keeps b o hb, rfl⟩) rfl he (fun b o hb => hx.keeps b o (of_hideAll _ hb)) hen rfl rfl rfl fun h' hL => ?_
  obtain ⟨k1, ⟨_, _, k2⟩, k3, k4⟩ := hL
  exact hQ h' ⟨_, t, st, sg, (fun _ z => nomatch z), k1, hen, k2, k3⟩ (((Heap.UpToSlots.of_keeps F.keep).trans (Heap.UpToSlots.of_keeps hx.keeps)).trans k4)
/-- a frame that the exception passes is left -/
theorem leave_past {cls : Value} {cl : List (Str × Addr)} (K : Below A base outer g) (F : Fr g L g₂ m) (R : RaisedSN base g₂ (envX name scope L a cd cl :: outer) e cls [] s'.heap) (hsm : g₂.UpToSlots s'.heap)
    (hQ : ∀ h', RaisedSN base g outer e cls [] h' → g.UpToSlots h' → Q () { s' with heap := h' }) :
    wpAny M (A.deeper (envX name scope L a cd cl)) (leaving (envX name scope L a cd cl) (.ref e)) Q E s' := by
  obtain ⟨B, a0, hB, hBG, hl, hfl⟩ := R
  refine wpAny_leaves_onW (L := L) (Around.frames_deeper K.stack) rfl hfl fun h' x1 x2 => ?_
  refine hQ h' ⟨B, a0, hB, fun b o q nm => hBG b o (F.keep b o q) (fun hm => ?_), (fun _ z => nomatch z), x1⟩ ((Heap.UpToSlots.of_keeps F.keep).trans (hsm.trans x2))
  obtain ⟨env, he, hf⟩ := List.mem_filterMap.mp hm
  rcases List.mem_cons.mp he with rfl | he
  · have z : b = L := (Option.some.inj hf).symm
    rw [z, kts_self F] at q; cases q
  · exact nm (List.mem_filterMap.mpr ⟨env, he, hf⟩)
end
section
variable {prog : Program} {w : World} {A₀ : Around} {s : Shared} {base h₀ : Heap} {outer : List Env} {L : Addr} {m : Str → Option Value} {K : Frag} {p : Program} {loose : List Str} {mean : ExcName → Option Value} {mg mb : Str → Option Value}
  {f C : Addr} {Q E : Value → Shared → Prop}
theorem ctr_use {deep units : Nat} {Pre : Heap → List Value → Prop} {dp un : Nat} {gd : Option (List Code)} {cn : Str} {cs : Scope} {a : Addr} {ccd : Value} {cl : List (Str × Addr)} {vs : List Value}
    (R : CTR prog w K p loose mean mg mb C f deep units Pre) (B : Below A₀ base outer h₀) (F : Fr h₀ L s.heap m) (X : K.In h₀) (T : Top p loose mean mg mb h₀) (hk : cs.kind = .function) (P : Pre s.heap vs)
    (hd : dp + deep < recursionLimit) (hu : un + units < cLine)
    (ret : ∀ e h' tk', RaisedSN base s.heap (envX cn cs L a ccd cl :: outer) e (.ref C) [] h' → s.heap.UpToSlots h' → E (.ref e) { s with heap := h', toks := tk' }) :
    wpAny (model prog w) (ktrTop dp un gd cn cs L a ccd cl outer) (call (.ref f) vs) Q E s :=
  R dp un gd cn cs a ccd cl outer A₀ base h₀ L m s vs Q E B F X T hk P hd hu ret
end
end

/-! ## part T9 -/
section
local macro_rules | `(tactic| walk_at "no such place") => `(tactic| skip)
local macro_rules | `(tactic| walk_at "no such place") => `(tactic| skip)
local macro_rules | `(tactic| walk_at "no such place") => `(tactic| skip)
local macro_rules | `(tactic| walk_at "no such place") => `(tactic| skip)
theorem top_off_T9 : True := by
  w_top off
  trivial
set_option hygiene false
open Builtin
theorem meta_Exception : typeOf (.type "Exception") = pure (.type "type") := by kernel_rfl
local macro_rules | `(tactic| walk_at "getMethod type:Exception") => `(tactic| (k_here; refine' method_type ?F ?X ?m (by decide +kernel) ?e ?h ?_; (case F => k_asm); (case X => k_asm); (case m => exact meta_Exception); (case e => k_dflt k_is); (case h => k_handed)))
local macro_rules | `(tactic| walk_at "call builtin:Exception.__init__") => `(tactic| (k_here; (with_reducible show wpAny _ _ (call (Value.builtin "Exception.__init__") [Value.ref _, _]) _ _ _); k_dflt (refine' exc_init (pre := []) (post := [_]) ?F ?N ?X ?K ?a ?b ?_; (case F => k_asm); (case N => k_asm); (case X => k_asm); (case K => kts_isx); (case a => exact fun _ h => nomatch h); (case b => (intro p9 hp9; rw [List.mem_singleton.mp hp9]; assumption))); intro h9 t9 F9 N9))
local macro_rules | `(tactic| walk_at "setAttr ref") => `(tactic| (k_here; k_dflt (refine' exc_set (pre := []) (mro := [.ref 44, .ref 31, .type "Exception", .type "BaseException", .type "object"]) ?F ?N ?X ?a ?b ?c ?d ?e ?f ?_; (case F => k_asm); (case N => k_asm); (case X => k_asm); (case a => kernel_rfl); (case b => kernel_rfl); (case c => rfl); (case d => exact pass_two); (case e => k_is); (case f => k_is)); intro h9 t9 dd9 F9 N9))
local macro_rules | `(tactic| ktn_open) => `(tactic| k_dflt (refine' b_defN (args := ⟨_, []⟩) ?k1 ?k2 ?kN ?k3 ?k5 ?kA ?kF ?kK ?k6 ?k7 ?k8 ?k9 ?kB ?_ ?c2 ?c3 ?c4 ?c5; (case k1 => k_asm); (case kA => exact rfl); (case kF => exact rfl); (case kK => first | exact rfl | assumption); (case k2 => k_asm); (case kN => k_asm); (case k3 => k_asm); (case k5 => k_asm); (case k6 => k_is); (case k7 => k_is); (case k8 => k_room); (case k9 => first | exact BindsTo.of_eq rfl | exact binds_K (by k_in) rfl (by k_is) rfl rfl rfl); (case c5 => decide); (case kB => exact locs rfl); (case c2 => exact rfl); (case c3 => exact rfl); (case c4 => exact rfl); k_whole; intro g' L' h' tk' e' F' N' B' X' T'; (try dsimp only); (try k_fold)))
set_option maxRecDepth 100000 in
set_option maxHeartbeats 8000000 in
theorem init_run {w : World} {p : Program} {loose : List Str} {mean : ExcName → Option Value} {mg mb : Str → Option Value} {dp un : Nat} {gd : Option (List Code)} {cn : Str} {cs : Scope} {a : Addr} {ccd : Value} {cl : List (Str × Addr)} {outer : List Env} {A₀ : Around} {base h₀ : Heap} {L : Addr} {m : Str → Option Value} {s : Shared} {e t0 : Addr} {why : Str} {tw : Tok} {Q E : Value → Shared → Prop}
    (B : Below A₀ base outer h₀) (F : Fr h₀ L s.heap m) (X : (hd.heap_39 w.params).In h₀) (T : Top p loose mean mg mb h₀) (hk : cs.kind = .function) (hd' : dp + 1 < recursionLimit) (hu : un + 8 < cLine)
    (N : News h₀ L s.heap [(e, { cls := .ref 44, data := .fields #[.ref t0, .none, .none, .none, .bool false, .none] }), (t0, { cls := .type "tuple", data := .seq [.str why tw].toArray })])
    (hne : t0 ≠ e) (hQ : ∀ h' tk', (∀ b o, b ≠ e → b ≠ t0 → s.heap.get? b = some o → h'.get? b = some o) → (∃ dd t, h'.get? e = some (excObj 44 dd t)) → Q .none { s with heap := h', toks := tk' }) :
    wpAny (model PySem.Challenge.rw_np0177_01.row.prog w) ((ktrTop dp un gd cn cs L a ccd cl outer).under (.builtin "type.__call__" ⟨.ref 44 :: [.str why tw], []⟩)) (call (.ref 28) [.ref e, .str why tw]) Q E s := by
  have hfill : PySem.Challenge.rw_np0177_01 = PySem.Challenge.rw_np0177_01 ∧ hd.heap_39 = hd.heap_39 := by k_fill; exact ⟨rfl, rfl⟩
  clear hfill
  (refine' b_defN (args := ⟨_, []⟩) ?k1 ?k2 ?kN ?k3 ?k5 ?kA ?kF ?kK ?k6 ?k7 ?k8 ?k9 ?kB ?_ ?c2 ?c3 ?c4 ?c5; (case k1 => k_asm); (case kA => exact rfl); (case kF => exact rfl); (case kK => first | exact rfl | assumption); (case k2 => k_asm); (case kN => k_asm); (case k3 => k_asm); (case k5 => k_asm); (case k6 => k_is); (case k7 => k_is); (case k8 => k_room); (case k9 => first | exact BindsTo.of_eq rfl | exact binds_K (by k_in) rfl (by k_is) rfl rfl rfl); (case c5 => decide); (case kB => exact locs rfl); (case c2 => exact rfl); (case c3 => exact rfl); (case c4 => exact rfl))
  k_steps
  rename _ = hideAll _ _ => eg
  rename Fr _ _ _ _ => F9
  rename News _ _ _ [_] => N9
  refine ⟨_, _, _, F9, N9, hQ _ _ (fun b o h1 h2 q => F9.keep _ _ ?_) ⟨_, _, (N9 _ (.head _)).1⟩⟩
  rw [eg]
  exact hideAll_get _ q (by intro hm; rcases List.mem_cons.mp hm with hm | hm; exact h1 hm; exact h2 (List.mem_singleton.mp hm))
set_option maxRecDepth 100000 in
set_option maxHeartbeats 8000000 in
theorem raise_misused {w : World} {p : Program} {loose : List Str} {mean : ExcName → Option Value} {mg mb : Str → Option Value} {dp un : Nat} {gd : Option (List Code)} {cn : Str} {cs : Scope} {a : Addr} {ccd : Value} {cl : List (Str × Addr)} {outer : List Env} {A₀ : Around} {base h₀ : Heap} {L : Addr} {m : Str → Option Value} {s : Shared} {Q : Flow → Shared → Prop} {E : Value → Shared → Prop}
    {x : Str} {np cpos pos : Pos} {arg : Expr} {qual : Str} {scope : Scope} {af : Addr} {cdv : Value}
    (B : Below A₀ base outer h₀) (F : Fr h₀ L s.heap m) (X : (hd.heap_39 w.params).In h₀) (T : Top p loose mean mg mb h₀) (hk : cs.kind = .function) (hd' : dp + 1 < recursionLimit) (hu : un + 8 < cLine)
    (hh : (ktrTop dp un gd cn cs L a ccd cl outer).handled = none) (hx : nsIn (hd.heap_39 w.params) mainGlobals x = some (some (.ref 44))) (hks : scope.kind = .function) (hkx : (envOf qual scope L af cdv).kindOf x = some .globalImplicit) (hdb : (x == ("__debug__" : Str)) = false)
    (hp : (backTo cpos (starEach [arg] (envOf qual scope L af cdv))).any (·.1) = false) (he : starEach [arg] (envOf qual scope L af cdv) = (false, eval arg (envOf qual scope L af cdv)) :: starEach [] (envOf qual scope L af cdv))
    (h : wpAny (model PySem.Challenge.rw_np0177_01.row.prog w) (ktrTop dp un gd cn cs L a ccd cl outer) (spliced (backTo cpos (starEach [arg] (envOf qual scope L af cdv)))) (fun vs s₂ => ∃ why tw, vs = [.str why tw] ∧ Fr h₀ L s₂.heap m ∧
      ∀ e h' tk', NewOwn s₂.heap h' e 44 → E (.ref e) { s₂ with heap := h', toks := tk' }) E s) :
    wpAny (model PySem.Challenge.rw_np0177_01.row.prog w) (ktrTop dp un gd cn cs L a ccd cl outer) (exec (.Raise (some (.Call (.Name x np) [arg] [] cpos)) none pos) (envOf qual scope L af cdv)) Q E s := by
  have hfill : PySem.Challenge.rw_np0177_01 = PySem.Challenge.rw_np0177_01 ∧ hd.heap_39 = hd.heap_39 := by k_fill; exact ⟨rfl, rfl⟩
  clear hfill
  refine' exc_raise (K := hd.heap_39 w.params) (C := 44) (fI := 28) PySem.F.excBase_Exception ?c1 ?c2 ?c3 ?c4 ?c5 ?c6 ?c7 ?c8 hh hp (name_K F X (topRead_of T) hx ⟨rfl, ?_⟩ hks hkx hdb)
  case c5 => k_is
  case c6 => k_is
  case c7 => k_is
  case c8 => rfl
  case c1 => decide +kernel
  case c2 => decide +kernel
  case c3 => decide +kernel
  case c4 => decide +kernel
  rw [he] at h
  rw [he]
  refine Calls.evalArgs_plain (wpAny_mono h (fun vs s₂ h₂ => ?_) fun _ _ y => y)
  obtain ⟨why, tw, rfl, F₂, h₂⟩ := h₂
  have hle : h₀.objs.size ≤ s₂.heap.objs.size := Nat.le_trans F₂.above (Nat.le_of_lt F₂.ns.lt)
  have up : ∀ b o, s₂.heap.get? b = some o → ((s₂.heap.push { cls := .type "tuple", data := .seq #[.str why tw] }).push (excObj 44 none (.ref s₂.heap.objs.size))).get? b = some o :=
    fun b o q => Heap.get?_push_of_some _ (Heap.get?_push_of_some _ q)
  refine ⟨_, rfl, X.keeps F₂.keep, init_run (e := s₂.heap.objs.size + 1) (t0 := s₂.heap.objs.size) B ((F₂.push _).push _) X T hk hd' hu ?_ (Nat.ne_of_lt (Nat.lt_succ_self _)) fun h' tk' k1 k2 => ?_⟩
  · intro p hp
    rcases List.mem_cons.mp hp with rfl | hp
    · exact ⟨by heap_get, Ne.symm (Nat.ne_of_lt (Nat.lt_succ_of_lt F₂.ns.lt)), Heap.get?_none_of_le (Nat.le_succ_of_le hle)⟩
    · rw [List.mem_singleton.mp hp]
      exact ⟨Heap.get?_push_of_some _ (Heap.get?_push_size _ rfl), Ne.symm (Nat.ne_of_lt F₂.ns.lt), Heap.get?_none_of_le hle⟩
  · have k3 : ∀ b o, s₂.heap.get? b = some o → h'.get? b = some o := fun b o q => k1 b o (Nat.ne_of_lt (Nat.lt_succ_of_lt (Heap.lt_size q))) (Nat.ne_of_lt (Heap.lt_size q)) (up b o q)
    obtain ⟨dd, t, k2⟩ := k2
    exact ⟨rfl, X.keeps fun b o q => k3 b o (F₂.keep b o q), ⟨dd, t, k2⟩, h₂ _ _ _ ⟨k3, Heap.get?_none_of_le (Nat.le_succ _), dd, t, k2⟩⟩
end

/-! ## part T10 -/
section
theorem top_off_T10 : True := by
  w_top off
  trivial
set_option hygiene false
local macro_rules | `(tactic| walk_at "exec Raise some none") => `(tactic| (k_here; k_dflt (refine' raise_misused ?B ?F ?X ?T ?k ?d ?u ?hh ?hx ?ks ?kx ?db ?hp ?he ?_; (case B => k_asm); (case F => k_asm); (case X => k_asm); (case T => k_asm); (case k => first | exact rfl | assumption); (case d => ktr_room); (case u => ktr_units); (case hh => exact rfl); (case hx => k_is); (case ks => exact rfl); (case kx => exact rfl); (case db => decide); (case hp => exact rfl); (case he => exact rfl))))
set_option maxRecDepth 100000 in
set_option maxHeartbeats 8000000 in
theorem want_raises {w : World} {p : Program} {loose : List Str} {mean : ExcName → Option Value} {mg mb : Str → Option Value} {wide par : Int} (h4 : ¬ (1 ≤ par ∧ par ≤ 3 ∧ par < wide)) :
    CTR PySem.Challenge.rw_np0177_01.row.prog w (hd.heap_39 w.params) p loose mean mg mb 44 88 3 24 (fun _ vs => ∃ t t', vs = [.int wide t, .int par t']) := by
  have hfill : PySem.Challenge.rw_np0177_01 = PySem.Challenge.rw_np0177_01 ∧ hd.heap_39 = hd.heap_39 := by k_fill; exact ⟨rfl, rfl⟩
  clear hfill
  unfold CTR
  intro dp un gd cn cs a ccd cl outer A₀ base h₀ L m s vs Q E B F X T hk hR hd' hu hret
  obtain ⟨t, t', rfl⟩ := hR
  ktn_open
  k_steps
  all_goals first
    | assumption
    | (refine leave_own (by assumption) (by assumption) (by assumption) (fun h9 R9 U9 => ?_) rfl; exact hret _ _ _ R9 U9)
local macro_rules | `(tactic| walk_at "call ref") => `(tactic| (k_here; (with_reducible show wpAny _ _ (call (Value.ref 88) _) _ _ _); k_dflt (refine' ctr_use (want_raises ?a1) ?B ?F ?X ?T ?k ?R ?d ?u ?_; (case B => k_asm); (case F => k_asm); (case X => k_asm); (case T => k_asm); (case k => first | exact rfl | assumption); (case d => ktr_room); (case u => ktr_units); (case R => exact ⟨_, _, rfl⟩); (case a1 => assumption)); intro e9 h9 tk9 R9 U9))
set_option maxRecDepth 100000 in
set_option maxHeartbeats 8000000 in
theorem asize_raises {w : World} {p : Program} {loose : List Str} {mean : ExcName → Option Value} {mg mb : Str → Option Value} {wide par : Int} (h4 : ¬ (1 ≤ par ∧ par ≤ 3 ∧ par < wide)) :
    CTR PySem.Challenge.rw_np0177_01.row.prog w (hd.heap_39 w.params) p loose mean mg mb 44 95 5 48 (fun _ vs => ∃ v sh t t', vs = [v, .int wide t, .int par t', sh]) := by
  have hfill : PySem.Challenge.rw_np0177_01 = PySem.Challenge.rw_np0177_01 ∧ hd.heap_39 = hd.heap_39 := by k_fill; exact ⟨rfl, rfl⟩
  clear hfill
  unfold CTR
  intro dp un gd cn cs a ccd cl outer A₀ base h₀ L m s vs Q E B F X T hk hR hd' hu hret
  obtain ⟨v, sh, t, t', rfl⟩ := hR
  ktn_open
  k_steps
  rename RaisedSN _ _ _ _ _ _ _ => R9
  rename Heap.UpToSlots _ _ => U9
  exact leave_past (cl := []) (by assumption) (by assumption) R9 U9 fun h' R' U' => hret _ _ _ R' U'
set_option maxRecDepth 100000 in
set_option maxHeartbeats 8000000 in
theorem columns_raises {w : World} {p : Program} {loose : List Str} {mean : ExcName → Option Value} {mg mb : Str → Option Value} {wide par : Int} (h4 : ¬ (1 ≤ par ∧ par ≤ 3 ∧ par < wide)) :
    CTR PySem.Challenge.rw_np0177_01.row.prog w (hd.heap_39 w.params) p loose mean mg mb 44 114 5 48 (fun _ vs => ∃ v v' sh t t', vs = [v, v', .int wide t, .int par t', sh]) := by
  have hfill : PySem.Challenge.rw_np0177_01 = PySem.Challenge.rw_np0177_01 ∧ hd.heap_39 = hd.heap_39 := by k_fill; exact ⟨rfl, rfl⟩
  clear hfill
  unfold CTR
  intro dp un gd cn cs a ccd cl outer A₀ base h₀ L m s vs Q E B F X T hk hR hd' hu hret
  obtain ⟨v, v', sh, t, t', rfl⟩ := hR
  ktn_open
  k_steps
  rename RaisedSN _ _ _ _ _ _ _ => R9
  rename Heap.UpToSlots _ _ => U9
  exact leave_past (cl := []) (by assumption) (by assumption) R9 U9 fun h' R' U' => hret _ _ _ R' U'
end

/-! ## part Blk -/
section
set_option maxRecDepth 100000
theorem top_off_Blk : True := by
  w_top off
  trivial
/-- what stood still stands, but for the slots of these frames and one object -/
noncomputable def UpBut (P : Addr) (fs : List Addr) (h h' : Heap) : Prop := (∀ b o, b ≠ P → b ∉ fs → h.get? b = some o → h'.get? b = some o) ∧ ∀ b o, b ≠ P → h.get? b = some o → b ∈ fs → ∃ sl, h'.get? b = some { o with slots := sl }
/-- a def's end, its ground perhaps turned in the slots of the frames outside -/
noncomputable def TEnd (fs : List Addr) (g : Heap) (Q : Value → Shared → Prop) (v : Value) (s' : Shared) : Prop :=
  ∃ g' L' m' news', KtsTurn fs g g' ∧ Fr g' L' s'.heap m' ∧ News g' L' s'.heap news' ∧ ((∀ b o, g'.get? b = some o → s'.heap.get? b = some o) → Q v s')
section
variable {prog : Program} {w : World} {A₀ A : Around} {s : Shared} {base h₀ : Heap} {outer : List Env} {L : Addr} {m : Str → Option Value} {env : Env} {K : Frag} {p : Program} {loose : List Str} {mean : ExcName → Option Value} {mg mb : Str → Option Value}
  {name qual : Str} {params : Arguments} {body : List Stmt} {scope : Scope} {dV kV doc pm cdv ct oc : Value} {an od : Option Addr} {osl : Array (Option Value)} {f : Addr} {args : Args} {binds : List (Str × Value)} {Q E : Value → Shared → Prop} {news : List (Addr × Obj)} {fs : List Addr}
/-- a def with cells is entered; what the ledger holds stays the ledger's -/
theorem b_defCN (B : Below A₀ base outer h₀) (F : Fr h₀ L s.heap m) (N : News h₀ L s.heap news) (X₀ : K.In h₀) (T : Top p loose mean mg mb h₀) (hA : A.frames = some (env :: outer)) (hf : env.frame = some L) (hke : env.scope.kind = .function)
    (ho : K.lookup f = some ⟨oc, od, .func (fnOf name qual params body scope dV kV doc pm an cdv ct), osl⟩) (hcd : codeIn K cdv qual = true) (hroom : A.depth < recursionLimit)
    (hbind : BindsTo s (fnOf name qual params body scope dV kV doc pm an cdv ct) args binds) (hkind : (binds.all fun y => scope.names.lookup y.1 == some .local || scope.names.lookup y.1 == some .cell) = true)
    (hnd : ((cellsFrom 0 scope.names []).map (·.1)).Nodup)
    (h : ∀ g L' h₁ tk cells, g = hideAll s.heap (news.map (·.1)) → Fr h₀ L g m → Fr g L' h₁ (bindL (envOfC qual scope L' f cdv).kindOf binds fun _ => none) → News g L' h₁ (cells ++ news) →
      CellsAre (bindC (envOfC qual scope L' f cdv).kindOf binds fun _ => none) (cellsFrom (L' + 1) scope.names []) cells → Below A base (env :: outer) g → K.In g → Top p loose mean mg mb g → (∀ q ∈ news, q.1 < L') →
      wpAny (model prog w) (A.deeper (envOfC qual scope L' f cdv)) (execs body (envOfC qual scope L' f cdv))
        (fun fl s' => TEnd fs g Q (match fl with | .ret v => v | _ => .none) s')
        (fun e s' => wpAny (model prog w) (A.deeper (envOfC qual scope L' f cdv)) (leaving (envOfC qual scope L' f cdv) e) (fun _ s'' => E e s'') (fun e' s'' => E e' s'') s')
        { s with heap := h₁, toks := tk })
    (hco : scope.isCoroutine = false) (hgen : scope.isGenerator = false) (hk : scope.kind = .function) : wpAny (model prog w) A (call (.ref f) args.pos args.kw) Q E s := by
  refine wpAny_call ?_
  obtain ⟨FG, BG, st, lv⟩ := groundX (R := RetTo Q E) B F N hA hf hke
  refine codeAny_call_function hroom ((X₀.keeps F.keep) _ _ ho) rfl hco hgen rfl (codeRec_of (X₀.keeps F.keep) hcd) (hbind _ _ _ _ ?_)
  refine wpAny_newFunctionEnv_cells hk (kindsX hkind _) fun env' he s' x => ?_
  subst he
  refine ⟨(T.nolimit.keeps F.keep).keeps x.toInCall.keep, codeAny_func ?_⟩
  obtain ⟨h₁, tk, rfl, _⟩ := x.done
  have hk₁ := x.toInCall.keep
  have hle : (hideAll s.heap (news.map (·.1))).objs.size ≤ s.heap.objs.size := Nat.le_of_eq (hideAll_size _ _)
  obtain ⟨cells, NC, Y⟩ := Cl.news (h₀ := hideAll s.heap (news.map (·.1))) hle fun n c hm => ⟨x.cell n c (lookup_of_mem_nodup (cellsFrom_names scope.names 0 (s.heap.objs.size + 1) [] [] rfl ▸ hnd) hm), x.above n c hm⟩
  have NN : News (hideAll s.heap (news.map (·.1))) s.heap.objs.size h₁ news := fun q hq => ⟨hk₁ _ _ (N q hq).1, Nat.ne_of_lt (Heap.lt_size (N q hq).1), hideAll_none _ (List.mem_map_of_mem hq)⟩
  refine wpAny_mono (h _ s.heap.objs.size h₁ tk cells rfl FG ⟨x.toInCall.ns, fun b o e => hk₁ b o (of_hideAll _ e), hle⟩ (NC.append NN) Y BG (X₀.keeps st) (T.keeps st) fun q hq => Heap.lt_size (N q hq).1) (fun fl s' hl => ?_) fun _ _ y => y
  obtain ⟨_, _, _, _, _, F', _, q⟩ := hl
  exact q F'.keep
end
end

/-! ## part Mis -/
section
set_option maxRecDepth 100000
local macro_rules | `(tactic| walk_at "no such place") => `(tactic| skip)
local macro_rules | `(tactic| walk_at "no such place") => `(tactic| skip)
local macro_rules | `(tactic| walk_at "no such place") => `(tactic| skip)
theorem top_off_Mis : True := by
  w_top off
  trivial
/-- a cell that holds v -/
noncomputable def CellIn (h : Heap) (c : Addr) (v : Value) : Prop := ∃ o, h.get? c = some o ∧ o.data = .cell (some v)
theorem CellIn.keeps {h h' : Heap} {c : Addr} {v : Value} (x : CellIn h c v) (k : ∀ b o, h.get? b = some o → h'.get? b = some o) : CellIn h' c v := let ⟨o, a, b⟩ := x; ⟨o, k _ _ a, b⟩
section
variable {M : Model} {A : Around} {E : Value → Shared → Prop} {s : Shared} {h₀ : Heap} {L a : Addr} {m : Str → Option Value} {cn : Str} {cs : Scope} {ccd : Value} {cl : List (Str × Addr)} {x : Str} {pos : Pos} {v : Value} {Q : Value → Shared → Prop} {c : Addr}
/-- a free name whose cell stands in the ground -/
theorem name_ground (F : Fr h₀ L s.heap m) (hc : cl.lookup x = some c) (hv : CellIn h₀ c v) (h : Q v s)
    (hk : cs.kind = .function := by rfl) (hx : (envX cn cs L a ccd cl).kindOf x = some .free := by rfl) (hb : (x == ("__debug__" : Str)) = false := by decide) (hn : (x == ("__classdict__" : Str)) = false := by decide) :
    wpAny M A (eval (.Name x pos) (envX cn cs L a ccd cl)) Q E s := by
  obtain ⟨o, ho, hd⟩ := hv
  exact wpAny_Name (wpAny_loadName_free hk hx hc ⟨o, F.keep _ _ ho, hd⟩ h hn) hb
end
section
variable {prog : Program} {w : World} {A₀ A : Around} {s : Shared} {base h₀ : Heap} {outer : List Env} {L : Addr} {m : Str → Option Value} {env : Env} {K : Frag} {p : Program} {loose : List Str} {mean : ExcName → Option Value} {mg mb : Str → Option Value}
  {name qual : Str} {params : Arguments} {scope : Scope} {pm ctv dV kV doc cdv ct oc : Value} {c' f : Addr} {an od : Option Addr} {osl : Array (Option Value)} {args : Args} {binds : List (Str × Value)} {Q E : Value → Shared → Prop}
/-- a lambda that stands on the heap is entered, the whole heap its ground -/
theorem b_lam {body : Expr} {cl : List (Str × Addr)} (B : Below A₀ base outer h₀) (F : Fr h₀ L s.heap m) (X₀ : K.In h₀) (T : Top p loose mean mg mb h₀) (hA : A.frames = some (env :: outer)) (hf : env.frame = some L) (hke : env.scope.kind = .function)
    (ho : s.heap.get? f = some (kla_obj name qual params body scope cl pm c' ctv)) (hcd : s.heap.CodeRec (.ref c') qual) (hroom : A.depth < recursionLimit)
    (hbind : bindArgs (kla_fn name qual params body scope cl pm (.ref c') ctv) args = pure binds) (hloc : ∀ y ∈ binds, scope.names.lookup y.1 = some .local)
    (h : ∀ L' h₁ tk, Fr s.heap L' h₁ (fun y => binds.reverse.lookup y) → News s.heap L' h₁ [] → Below A base (env :: outer) s.heap → K.In s.heap → Top p loose mean mg mb s.heap →
      wpAny (model prog w) (A.deeper (envX qual scope L' f (.ref c') cl)) (eval body (envX qual scope L' f (.ref c') cl))
        (fun v s' => BEnd s.heap Q v s')
        (fun e s' => wpAny (model prog w) (A.deeper (envX qual scope L' f (.ref c') cl)) (leaving (envX qual scope L' f (.ref c') cl) e) (fun _ s'' => E e s'') (fun e' s'' => E e' s'') s')
        { s with heap := h₁, toks := tk })
    (hco : scope.isCoroutine = false) (hgen : scope.isGenerator = false) (hk : scope.kind = .function)
    (hcell : ∀ x ∈ scope.names, x.2 ≠ .cell) : wpAny (model prog w) A (call (.ref f) args.pos args.kw) Q E s := by
  refine wpAny_call ?_
  obtain ⟨FG, BG, st, lv⟩ := groundX (R := RetTo Q E) B F (News.nil (h := s.heap)) hA hf hke
  refine kla_callFunE hroom ho rfl hco hgen rfl hcd ?_
  rw [hbind]
  refine wpAny_pure (wpAny_newFunctionEnv hcell hloc (fun h₁ hns hsb => ⟨((T.nolimit).keeps F.keep).fresh _ hsb, ?_⟩) hk)
  show codeAny _ _ (.expr body (envX qual scope s.heap.objs.size f (.ref c') cl)) _ _
  have hk₁ : ∀ b o, s.heap.get? b = some o → h₁.get? b = some o := fun b o e => hsb.extBut b o (Nat.ne_of_lt (Heap.lt_size e)) (Heap.get?_push_of_some _ e)
  exact kla_codeExpr (wpAny_mono (h s.heap.objs.size h₁ _ ⟨hns, hk₁, Nat.le_refl _⟩ News.nil BG (X₀.keeps F.keep) (T.keeps F.keep)) (fun v s' hl => hl.out) fun _ _ y => y)
/-- a plain def is entered, the whole heap its ground; what lies below may have been turned in its slots at the end -/
theorem b_defT {body : List Stmt} (B : Below A₀ base outer h₀) (F : Fr h₀ L s.heap m) (X₀ : K.In h₀) (T : Top p loose mean mg mb h₀) (hA : A.frames = some (env :: outer)) (hf : env.frame = some L) (hke : env.scope.kind = .function)
    (ho : K.lookup f = some ⟨oc, od, .func (fnOf name qual params body scope dV kV doc pm an cdv ct), osl⟩) (hcd : codeIn K cdv qual = true) (hroom : A.depth < recursionLimit)
    (hbind : BindsTo s (fnOf name qual params body scope dV kV doc pm an cdv ct) args binds) (hloc : ∀ y ∈ binds, scope.names.lookup y.1 = some .local)
    (h : ∀ L' h₁ tk, Fr s.heap L' h₁ (fun y => binds.reverse.lookup y) → News s.heap L' h₁ [] → Below A base (env :: outer) s.heap → K.In s.heap → Top p loose mean mg mb s.heap →
      wpAny (model prog w) (A.deeper (envOf qual scope L' f cdv)) (execs body (envOf qual scope L' f cdv))
        (fun fl s' => TEnd ((env :: outer).filterMap (·.frame)) s.heap Q (match fl with | .ret v => v | _ => .none) s')
        (fun e s' => wpAny (model prog w) (A.deeper (envOf qual scope L' f cdv)) (leaving (envOf qual scope L' f cdv) e) (fun _ s'' => E e s'') (fun e' s'' => E e' s'') s')
        { s with heap := h₁, toks := tk })
    (hco : scope.isCoroutine = false) (hgen : scope.isGenerator = false) (hk : scope.kind = .function)
    (hcell : ∀ x ∈ scope.names, x.2 ≠ .cell) : wpAny (model prog w) A (call (.ref f) args.pos args.kw) Q E s := by
  refine wpAny_call ?_
  obtain ⟨FG, BG, st, lv⟩ := groundX (R := RetTo Q E) B F (News.nil (h := s.heap)) hA hf hke
  refine codeAny_call_def (fd := fnX name qual params body scope [] dV kV doc pm an cdv ct) (body := body) (binds := binds) hroom ((X₀.keeps F.keep) _ _ ho) rfl (T.nolimit.keeps F.keep) (codeRec_of (X₀.keeps F.keep) hcd) rfl hbind hcell hloc (fun h₁ hns hk₁ => ?_) hco hgen hk
  refine wpAny_mono (h s.heap.objs.size h₁ _ ⟨hns, hk₁, Nat.le_refl _⟩ News.nil BG (X₀.keeps F.keep) (T.keeps F.keep)) (fun fl s' hl => ?_) fun _ _ y => y
  obtain ⟨_, _, _, _, _, F', _, q⟩ := hl
  exact q F'.keep
end
section
variable {prog : Program} {w : World} {A₀ : Around} {E : Value → Shared → Prop} {s' : Shared} {base g G : Heap} {outer : List Env} {L a e C : Addr} {m : Str → Option Value} {name : Str} {scope : Scope} {cd : Value}
  {b₀ : Stmt} {suite : List Stmt} {pos np : Pos} {rest : List ExceptHandler} {Q : Flow → Shared → Prop} {KF : Frag} {p : Program} {loose : List Str} {mean : ExcName → Option Value} {mg mb : Str → Option Value} {x : Str}
/-- an exception of a class of our own that the frame's own clause takes by that class's name -/
theorem own_caught (R : RaisedSN base G (envOf name scope L a cd :: outer) e (.ref C) [] s'.heap) (F : Fr g L G m) (K : Below A₀ base outer g) (hsm : G.UpToSlots s'.heap) (XB : KF.In base) (TB : Top p loose mean mg mb base)
    (ex : nsIn KF mainGlobals x = some (some (.ref C))) (q : ktsIn KF C "BaseException" = true)
    (k : ∀ h' g', KtsTurn (outer.filterMap (·.frame)) g g' → Fr g' L h' m → News g' L h' [] → Below A₀ base outer g' → KF.In g' → Top p loose mean mg mb g' →
      wpAny (model prog w) ((A₀.deeper (envOf name scope L a cd)).mark (some (.ref e))) (execs (b₀ :: suite) (envOf name scope L a cd)) Q E { s' with heap := h' })
    (hk : scope.kind = .function := by rfl) (hx : (envOf name scope L a cd).kindOf x = some .globalImplicit := by rfl) (hd : (x == ("__debug__" : Str)) = false := by decide)
    (hE : PassesOwnAt (model prog w) ((A₀.deeper (envOf name scope L a cd)).mark (some (.ref e))) (A₀.deeper (envOf name scope L a cd)) (envOf name scope L a cd) E := by passes_own) :
    wpAny (model prog w) (A₀.deeper (envOf name scope L a cd)) (noteFrame (.ref e) (envOf name scope L a cd))
      (fun _ s₂ => wpAny (model prog w) (A₀.deeper (envOf name scope L a cd)) (setFlight (.ref e) none) (fun _ s₃ =>
        wpAny (model prog w) (A₀.deeper (envOf name scope L a cd)) (handleBy (.ref e) (envOf name scope L a cd) (.ExceptHandler (some (.Name x np)) none (b₀ :: suite) pos :: rest)) Q E s₃) E s₂) E s' := by
  obtain ⟨B, a0, _, hBG, _, hfl⟩ := R
  refine wpAny_looks_onW (Around.frames_deeper K.stack) rfl hfl fun h₁ held₁ up₁ => wpAny_landsW held₁ fun h₂ held₂ up₂ => ?_
  have up : G.UpToSlots h₂ := hsm.trans (up₁.trans up₂)
  obtain ⟨g₂, _, F₂, K₂⟩ := kts_ground K F hBG held₂.1 up
  have X₂ : KF.In g₂ := XB.keeps K₂.stays
  obtain ⟨ob, hob, hobc⟩ := held₂.there
  obtain ⟨nm, q', N, bs, bm, hdct, sn, sub, ab, col, dd, k0, k1, k2, k3, k5, newId, hC, hbase, _⟩ := kts_cls X₂ q
  refine wpAny_handleBy_cons (codeAny_handlers_test (name_K F₂ X₂ (topRead_of (TB.keeps K₂.stays)) ex ?_ hk hx hd)) (by intro z; cases z)
  refine wpAny_excMatches_sub_self (F₂.keep _ _ hC) hob hobc hbase (codeAny_handlers_suite (lands_againW held₂ fun h₃ fl₃ up₃ => ?_))
  obtain ⟨g₃, T₃, F₃, K₃⟩ := kts_ground K F hBG fl₃.1 (up.trans up₃)
  exact wpAny_passesOwnAt hE (k h₃ g₃ T₃ F₃ News.nil K₃ (XB.keeps K₃.stays) (TB.keeps K₃.stays))
end
/-- all stands, but for the slots of these frames -/
noncomputable def UpFs (fs : List Addr) (h h' : Heap) : Prop := (∀ b o, b ∉ fs → h.get? b = some o → h'.get? b = some o) ∧ ∀ b o, h.get? b = some o → b ∈ fs → ∃ sl, h'.get? b = some { o with slots := sl }
theorem UpFs.of {fs : List Addr} {g g' h : Heap} (T : KtsTurn fs g g') (k : ∀ b o, g'.get? b = some o → h.get? b = some o) : UpFs fs g h :=
  ⟨fun b o n e => k b o (T.other b o e n), fun b o e m => let ⟨sl, z⟩ := T.frame b o e m; ⟨sl, k _ _ z⟩⟩
section
variable {A₀ : Around} {base h₀ h h' : Heap} {outer : List Env} {L : Addr} {m : Str → Option Value}
/-- the ground anew behind a call that has turned frames in their slots -/
theorem mis_ground (B : Below A₀ base outer h₀) (F : Fr h₀ L h m) (U : UpFs (L :: outer.filterMap (·.frame)) h h') :
    ∃ g', KtsTurn (outer.filterMap (·.frame)) h₀ g' ∧ Fr g' L h' m ∧ (∀ news, News h₀ L h news → News g' L h' news) ∧ Below A₀ base outer g' := by
  have inH : ∀ b, b ∈ outer.filterMap (·.frame) → ∃ o, h₀.get? b = some o := fun b hb => let ⟨_, o, ho, _⟩ := B.frames.mem hb; ⟨o, ho⟩
  have hL : h₀.get? L = none := kts_self F
  obtain ⟨T, S⟩ := kts_turn_at (h := h') (fs := outer.filterMap (·.frame)) (g := h₀) inH
    (fun b o e n => U.1 b o (fun z => by
      rcases List.mem_cons.mp z with z | z
      · rw [z, hL] at e; cases e
      · exact n z) (F.keep _ _ e))
    (fun b o e hm => U.2 b o (F.keep _ _ e) (List.mem_cons_of_mem _ hm))
  have B' : Below A₀ base outer (ktsHeap h' (outer.filterMap (·.frame)) h₀) := ⟨B.stack, fun b o e => T.other b o (B.stays b o e) (fun hm => by rw [(B.frames.mem hm).1] at e; cases e),
    B.frames.of_keeps fun b o e _ => let ⟨_, z⟩ := T.up e; ⟨_, z, rfl⟩⟩
  obtain ⟨oL, es, ep, hoL, hLd, hLk, hLf⟩ := F.ns
  obtain ⟨sl, hs⟩ := U.2 L oL hoL List.mem_cons_self
  refine ⟨_, T, ⟨⟨_, es, ep, hs, hLd, hLk, hLf⟩, S, by rw [T.size]; exact F.above⟩, fun news N p hp => ?_, B'⟩
  obtain ⟨n1, n2, n3⟩ := N p hp
  refine ⟨U.1 _ _ (fun z => ?_) n1, n2, T.none_ _ n3⟩
  rcases List.mem_cons.mp z with z | z
  · exact n2 z
  · obtain ⟨o, ho⟩ := inH _ z
    rw [n3] at ho; cases ho
end
end

/-! ## part T11 -/
section
local macro_rules | `(tactic| walk_at "no such place") => `(tactic| skip)
local macro_rules | `(tactic| walk_at "no such place") => `(tactic| skip)
local macro_rules | `(tactic| walk_at "no such place") => `(tactic| skip)
local macro_rules | `(tactic| walk_at "no such place") => `(tactic| skip)
theorem top_off_T11 : True := by
  w_top off
  trivial
set_option hygiene false
/-- it holds however the heap grows -/
noncomputable def AtAll (h : Heap) (Pre : Heap → List Value → Prop) : Prop := ∀ h', Grew h h' → Pre h' []
theorem AtAll.to {h h' : Heap} {Pre : Heap → List Value → Prop} (x : AtAll h Pre) (g : Grew h h') : Pre h' [] := x _ g
local macro_rules | `(tactic| walk_at "eval Name") => `(tactic| (k_here; kc_free; k_dflt (refine' name_ground ?F ?c ?v ?_ ?a ?b; (case a => rfl); (case b => rfl); (case F => k_asm); (case c => rfl); (case v => assumption); k_whole)))
local macro_rules | `(tactic| walk_at "call ref") => `(tactic| (k_here; (with_reducible show wpAny _ _ (call (Value.ref 95) _) _ _ _); k_dflt (refine' ctr_use (asize_raises ?a1) ?B ?F ?X ?T ?k ?R ?d ?u ?_; (case B => k_asm); (case F => k_asm); (case X => k_asm); (case T => k_asm); (case k => first | exact rfl | assumption); (case d => ktr_room); (case u => ktr_units); (case R => exact ⟨_, _, _, _, rfl⟩); (case a1 => assumption)); intro e9 h9 tk9 R9 U9))
local macro_rules | `(tactic| walk_at "call ref") => `(tactic| (k_here; (with_reducible show wpAny _ _ (call (Value.ref 114) _) _ _ _); k_dflt (refine' ctr_use (columns_raises ?a1) ?B ?F ?X ?T ?k ?R ?d ?u ?_; (case B => k_asm); (case F => k_asm); (case X => k_asm); (case T => k_asm); (case k => first | exact rfl | assumption); (case d => ktr_room); (case u => ktr_units); (case R => exact ⟨_, _, _, _, _, rfl⟩); (case a1 => assumption)); intro e9 h9 tk9 R9 U9))
/-- asize's lambda stands on the heap, its cells hold what they are to -/
noncomputable abbrev LamA (wide par : Int) (f c' c1 c2 c3 c4 : Addr) (qual : Str) (pm ctv vz vs : Value) (t1 t2 : Tok) (p0 p1 p2 p3 p4 p5 : Pos) (h : Heap) (us : List Value) : Prop := us = [] ∧
      h.get? f = some (kla_obj (Str.ofString "<lambda>") qual { posonlyargs := [], args := [], vararg := none, kwonlyargs := [], kw_defaults := [], kwarg := none, defaults := [] } (.Call (.Name (Str.ofString "asize") p0) [.Name (Str.ofString "size") p1, .Name (Str.ofString "wide") p2, .Name (Str.ofString "parity") p3, .Name (Str.ofString "shape") p4] [] p5)
        { kind := .function, names := [(Str.ofString "parity", .free), (Str.ofString "shape", .free), (Str.ofString "size", .free), (Str.ofString "wide", .free), (Str.ofString "asize", .globalImplicit)], isGenerator := false, isCoroutine := false } [(Str.ofString "wide", c4), (Str.ofString "size", c3), (Str.ofString "shape", c2), (Str.ofString "parity", c1)] pm c' ctv) ∧
      h.CodeRec (.ref c') qual ∧ CellIn h c1 (.int par t1) ∧ CellIn h c2 vs ∧ CellIn h c3 vz ∧ CellIn h c4 (.int wide t2)
/-- columns' lambda -/
noncomputable abbrev LamC (wide par : Int) (f c' c0 c1 c2 c3 c4 : Addr) (qual : Str) (pm ctv vz vs vt : Value) (t1 t2 : Tok) (p0 p1 p2 p3 p4 p5 p6 : Pos) (h : Heap) (us : List Value) : Prop := us = [] ∧
      h.get? f = some (kla_obj (Str.ofString "<lambda>") qual { posonlyargs := [], args := [], vararg := none, kwonlyargs := [], kw_defaults := [], kwarg := none, defaults := [] } (.Call (.Name (Str.ofString "columns") p0) [.Name (Str.ofString "sector") p6, .Name (Str.ofString "size") p1, .Name (Str.ofString "wide") p2, .Name (Str.ofString "parity") p3, .Name (Str.ofString "shape") p4] [] p5)
        { kind := .function, names := [(Str.ofString "parity", .free), (Str.ofString "sector", .free), (Str.ofString "shape", .free), (Str.ofString "size", .free), (Str.ofString "wide", .free), (Str.ofString "columns", .globalImplicit)], isGenerator := false, isCoroutine := false } [(Str.ofString "wide", c4), (Str.ofString "size", c3), (Str.ofString "shape", c2), (Str.ofString "sector", c0), (Str.ofString "parity", c1)] pm c' ctv) ∧
      h.CodeRec (.ref c') qual ∧ CellIn h c1 (.int par t1) ∧ CellIn h c0 vt ∧ CellIn h c2 vs ∧ CellIn h c3 vz ∧ CellIn h c4 (.int wide t2)
section
variable {h₀ h : Heap} {L : Addr} {news : List (Addr × Obj)}
theorem cell_in {c : Addr} {o : Obj} {v : Value} {h' : Heap} (N : News h₀ L h news) (g : Grew h h') (m : (c, o) ∈ news) (d : o.data = .cell (some v)) : CellIn h' c v := ⟨o, g _ _ (N _ m).1, d⟩
theorem code_in {c : Addr} {o : Obj} {h' : Heap} {vs : Array Value} {q : Str} {t : Tok} (N : News h₀ L h news) (g : Grew h h') (m : (c, o) ∈ news) (d : o.data = .fields vs) (e : vs[1]? = some (.str q t)) : h'.CodeRec (.ref c) q := ⟨c, o, vs, t, rfl, g _ _ (N _ m).1, d, e⟩
end
set_option maxRecDepth 100000 in
set_option maxHeartbeats 8000000 in
theorem lamA_raises {w : World} {p : Program} {loose : List Str} {mean : ExcName → Option Value} {mg mb : Str → Option Value} {wide par : Int} {f c' c1 c2 c3 c4 : Addr} {qual : Str} {pm ctv vz vs : Value} {t1 t2 : Tok} {p0 p1 p2 p3 p4 p5 : Pos} (h4 : ¬ (1 ≤ par ∧ par ≤ 3 ∧ par < wide)) :
    CTR PySem.Challenge.rw_np0177_01.row.prog w (hd.heap_39 w.params) p loose mean mg mb 44 f 7 64 (LamA wide par f c' c1 c2 c3 c4 qual pm ctv vz vs t1 t2 p0 p1 p2 p3 p4 p5) := by
  have hfill : PySem.Challenge.rw_np0177_01 = PySem.Challenge.rw_np0177_01 ∧ hd.heap_39 = hd.heap_39 := by k_fill; exact ⟨rfl, rfl⟩
  clear hfill
  unfold CTR
  intro dp un gd cn cs a ccd cl outer A₀ base h₀ L m s us Q E B F X T hk hR hd' hu hret
  obtain ⟨rfl, hf, hc, i1, i2, i3, i4⟩ := hR
  refine b_lam (args := ⟨[], []⟩) B F X T rfl rfl hk hf hc (by k_room) rfl (fun _ h9 => nomatch h9) ?_ rfl rfl rfl (by decide)
  intro L' h' tk' F' N' B' X' T'
  try dsimp only
  try k_fold
  k_steps
  rename RaisedSN _ _ _ _ _ _ _ => R9
  rename Heap.UpToSlots _ _ => U9
  exact leave_past (by assumption) (by assumption) R9 U9 fun h' R' U' => hret _ _ _ R' U'
set_option maxRecDepth 100000 in
set_option maxHeartbeats 8000000 in
theorem lamC_raises {w : World} {p : Program} {loose : List Str} {mean : ExcName → Option Value} {mg mb : Str → Option Value} {wide par : Int} {f c' c0 c1 c2 c3 c4 : Addr} {qual : Str} {pm ctv vz vs vt : Value} {t1 t2 : Tok} {p0 p1 p2 p3 p4 p5 p6 : Pos} (h4 : ¬ (1 ≤ par ∧ par ≤ 3 ∧ par < wide)) :
    CTR PySem.Challenge.rw_np0177_01.row.prog w (hd.heap_39 w.params) p loose mean mg mb 44 f 7 64 (LamC wide par f c' c0 c1 c2 c3 c4 qual pm ctv vz vs vt t1 t2 p0 p1 p2 p3 p4 p5 p6) := by
  have hfill : PySem.Challenge.rw_np0177_01 = PySem.Challenge.rw_np0177_01 ∧ hd.heap_39 = hd.heap_39 := by k_fill; exact ⟨rfl, rfl⟩
  clear hfill
  unfold CTR
  intro dp un gd cn cs a ccd cl outer A₀ base h₀ L m s us Q E B F X T hk hR hd' hu hret
  obtain ⟨rfl, hf, hc, i1, i0, i2, i3, i4⟩ := hR
  refine b_lam (args := ⟨[], []⟩) B F X T rfl rfl hk hf hc (by k_room) rfl (fun _ h9 => nomatch h9) ?_ rfl rfl rfl (by decide)
  intro L' h' tk' F' N' B' X' T'
  try dsimp only
  try k_fold
  k_steps
  rename RaisedSN _ _ _ _ _ _ _ => R9
  rename Heap.UpToSlots _ _ => U9
  exact leave_past (by assumption) (by assumption) R9 U9 fun h' R' U' => hret _ _ _ R' U'
local macro_rules | `(tactic| walk_at "call ref") => `(tactic| (k_here; (rename CTR _ _ _ _ _ _ _ _ _ _ _ _ _ => R8); (refine' ctr_use R8 ?B ?F ?X ?T ?k ?R ?d ?u ?_; (case B => k_asm); (case F => k_asm); (case X => k_asm); (case T => k_asm); (case k => first | exact rfl | assumption); (case d => ktr_room); (case u => ktr_units); (case R => exact AtAll.to (by assumption) (Fr.keep (by k_asm)))); intro e9 h9 tk9 R9 U9))
local macro_rules | `(tactic| walk_at "noteFrame ref") => `(tactic| (k_here; (rename RaisedSN _ _ _ _ _ _ _ => rsX); (rename Heap.UpToSlots _ _ => upX); k_dflt (refine' own_caught rsX ?F ?K upX ?XB ?TB ?ex ?q ?_; (case F => assumption); (case K => assumption); (case XB => assumption); (case TB => assumption); (case ex => k_is); (case q => kts_isx); k_whole); intro h' g' T9 F9 N9 K9 X9 P9))
theorem FnAt.keeps {h h' : Heap} {q : Addr} (x : FnAt q h) (k : ∀ b o, h.get? b = some o → h'.get? b = some o) : FnAt q h' := let ⟨oc, od, fd, sl, e⟩ := x; ⟨oc, od, fd, sl, k _ _ e⟩
local macro_rules | `(tactic| walk_at "callWith ref") => `(tactic| (k_here; k_dflt (refine' callWith_F0 ?k1 ?_; (case k1 => exact FnAt.keeps (by assumption) (Fr.keep (by k_asm)))); try dsimp only [List.nil_append, List.cons_append]))
set_option maxRecDepth 100000 in
set_option maxHeartbeats 8000000 in
theorem misused_run {w : World} {p : Program} {loose : List Str} {mean : ExcName → Option Value} {mg mb : Str → Option Value} {dp un : Nat} {gd : Option (List Code)} {cn : Str} {cs : Scope} {a : Addr} {ccd : Value} {cl : List (Str × Addr)} {outer : List Env} {A₀ : Around} {base h₀ : Heap} {L : Addr} {m : Str → Option Value} {s : Shared} {fc : Addr} {Q E : Value → Shared → Prop}
    {Pre : Heap → List Value → Prop} (R : CTR PySem.Challenge.rw_np0177_01.row.prog w (hd.heap_39 w.params) p loose mean mg mb 44 fc 7 64 Pre) (hP : AtAll s.heap Pre) (hFn : FnAt fc s.heap)
    (B : Below A₀ base outer h₀) (F : Fr h₀ L s.heap m) (X : (hd.heap_39 w.params).In h₀) (T : Top p loose mean mg mb h₀) (XB : (hd.heap_39 w.params).In base) (TB : Top p loose mean mg mb base) (hk : cs.kind = .function) (hd' : dp + 9 < recursionLimit) (hu : un + 80 < cLine)
    (hret : ∀ h' tk', UpFs (L :: outer.filterMap (·.frame)) s.heap h' → Q (.bool true) { s with heap := h', toks := tk' }) :
    wpAny (model PySem.Challenge.rw_np0177_01.row.prog w) (ktrTop dp un gd cn cs L a ccd cl outer) (call (.ref 171) [.ref fc]) Q E s := by
  have hfill : PySem.Challenge.rw_np0177_01 = PySem.Challenge.rw_np0177_01 ∧ hd.heap_39 = hd.heap_39 := by k_fill; exact ⟨rfl, rfl⟩
  clear hfill
  (refine' b_defT (args := ⟨_, []⟩) B F X T ?kA ?kF ?kK ?k6 ?k7 ?k8 ?k9 ?kB ?_ ?c2 ?c3 ?c4 ?c5; (case kA => exact rfl); (case kF => exact rfl); (case kK => first | exact rfl | assumption); (case k6 => k_is); (case k7 => k_is); (case k8 => k_room); (case k9 => first | exact BindsTo.of_eq rfl | exact binds_K (by k_in) rfl (by k_is) rfl rfl rfl); (case c5 => decide); (case kB => exact locs rfl); (case c2 => exact rfl); (case c3 => exact rfl); (case c4 => exact rfl))
  intro L' h' tk' F' N' B' X' T'
  try dsimp only
  try k_fold
  k_steps
  rename KtsTurn _ _ _ => T9
  rename Fr _ L' _ _ => F9
  rename News _ L' _ _ => N9
  exact (show TEnd (L :: outer.filterMap (·.frame)) s.heap Q (.bool true) _ from ⟨_, _, _, _, T9, F9, N9, fun k9 => hret _ _ (UpFs.of T9 k9)⟩)
end

/-! ## part Ent -/
section
set_option maxRecDepth 100000
theorem top_off_Ent : True := by
  w_top off
  trivial
section
variable {prog : Program} {w : World} {A₀ A : Around} {s : Shared} {base h₀ : Heap} {outer : List Env} {L : Addr} {m : Str → Option Value} {env : Env} {K : Frag} {p : Program} {loose : List Str} {mean : ExcName → Option Value} {mg mb : Str → Option Value}
  {name qual : Str} {params : Arguments} {body : List Stmt} {scope : Scope} {dV kV doc pm cdv ct oc : Value} {an od : Option Addr} {osl : Array (Option Value)} {f : Addr} {args : Args} {binds : List (Str × Value)} {Q E : Value → Shared → Prop}
/-- a def with cells is entered, the whole heap its ground; what lies below may have been turned in its slots at the end -/
theorem b_defCT (B : Below A₀ base outer h₀) (F : Fr h₀ L s.heap m) (X₀ : K.In h₀) (T : Top p loose mean mg mb h₀) (hA : A.frames = some (env :: outer)) (hf : env.frame = some L) (hke : env.scope.kind = .function)
    (ho : K.lookup f = some ⟨oc, od, .func (fnOf name qual params body scope dV kV doc pm an cdv ct), osl⟩) (hcd : codeIn K cdv qual = true) (hroom : A.depth < recursionLimit)
    (hbind : BindsTo s (fnOf name qual params body scope dV kV doc pm an cdv ct) args binds) (hkind : (binds.all fun y => scope.names.lookup y.1 == some .local || scope.names.lookup y.1 == some .cell) = true)
    (hnd : ((cellsFrom 0 scope.names []).map (·.1)).Nodup)
    (h : ∀ L' h₁ tk cells, Fr s.heap L' h₁ (bindL (envOfC qual scope L' f cdv).kindOf binds fun _ => none) → News s.heap L' h₁ cells →
      CellsAre (bindC (envOfC qual scope L' f cdv).kindOf binds fun _ => none) (cellsFrom (L' + 1) scope.names []) cells → Below A base (env :: outer) s.heap → K.In s.heap → Top p loose mean mg mb s.heap →
      wpAny (model prog w) (A.deeper (envOfC qual scope L' f cdv)) (execs body (envOfC qual scope L' f cdv))
        (fun fl s' => TEnd ((env :: outer).filterMap (·.frame)) s.heap Q (match fl with | .ret v => v | _ => .none) s')
        (fun e s' => wpAny (model prog w) (A.deeper (envOfC qual scope L' f cdv)) (leaving (envOfC qual scope L' f cdv) e) (fun _ s'' => E e s'') (fun e' s'' => E e' s'') s')
        { s with heap := h₁, toks := tk })
    (hco : scope.isCoroutine = false) (hgen : scope.isGenerator = false) (hk : scope.kind = .function) : wpAny (model prog w) A (call (.ref f) args.pos args.kw) Q E s := by
  refine wpAny_call ?_
  obtain ⟨FG, BG, st, lv⟩ := groundX (R := RetTo Q E) B F (News.nil (h := s.heap)) hA hf hke
  refine codeAny_call_function hroom ((X₀.keeps F.keep) _ _ ho) rfl hco hgen rfl (codeRec_of (X₀.keeps F.keep) hcd) (hbind _ _ _ _ ?_)
  refine wpAny_newFunctionEnv_cells hk (kindsX hkind _) fun env' he s' x => ?_
  subst he
  refine ⟨(T.nolimit.keeps F.keep).keeps x.toInCall.keep, codeAny_func ?_⟩
  obtain ⟨h₁, tk, rfl, _⟩ := x.done
  have hk₁ := x.toInCall.keep
  obtain ⟨cells, NC, Y⟩ := Cl.news (h₀ := s.heap) (Nat.le_refl _) fun n c hm => ⟨x.cell n c (lookup_of_mem_nodup (cellsFrom_names scope.names 0 (s.heap.objs.size + 1) [] [] rfl ▸ hnd) hm), x.above n c hm⟩
  refine wpAny_mono (h s.heap.objs.size h₁ tk cells ⟨x.toInCall.ns, hk₁, Nat.le_refl _⟩ NC Y BG (X₀.keeps F.keep) (T.keeps F.keep)) (fun fl s' hl => ?_) fun _ _ y => y
  obtain ⟨_, _, _, _, _, F', _, q⟩ := hl
  exact q F'.keep
end
noncomputable def inB (lo hi : Int) : Value → Bool
  | .int k _ => decide (lo ≤ k) && decide (k ≤ hi)
  | _ => false
theorem inB_out {lo hi : Int} : ∀ {v : Value}, inB lo hi v = true → ∃ p t, v = .int p t ∧ lo ≤ p ∧ p ≤ hi := by
  intro v h
  cases v with
  | int k t =>
    simp only [inB, Bool.and_eq_true, decide_eq_true_eq] at h
    exact ⟨k, t, rfl, h.1, h.2⟩
  | _ => simp [inB] at h
section
variable {prog : Program} {w : World} {A : Around} {E : Value → Shared → Prop} {s : Shared} {h₀ : Heap} {L : Addr}
/-- an item of a written menu: only its bounds are told -/
theorem menu_abs {value slice : PySem.Expr} {l : Addr} {us : List Value} {c : Nat} {k lo hi : Int} {u : Tok} {news : List (Addr × Obj)} {Q : Value → Shared → Prop} (N : News h₀ L s.heap news) (hm : (l, listOf us.toArray c) ∈ news)
    (hu : us.all (inB lo hi) = true) (h0 : 0 ≤ k) (h1 : k < (us.length : Int)) (hhi : k < 2 ^ 63) (h : ∀ p t, lo ≤ p → p ≤ hi → Q (.int p t) s)
    (hs : subscripted slice false (.ref l) (.int k u) = operate [.ref l, .int k u] (getItem (.ref l) (.int k u)) := by with_unfolding_all rfl) :
    wpAny (model prog w) A (subscriptTail value slice (.ref l) (.int k u)) Q E s := by
  have hl : s.heap.IsList l us.toArray := ⟨_, (N _ hm).1, rfl, c, rfl⟩
  have hk : k.toNat < us.length := by omega
  obtain ⟨p, t, e, h2, h3⟩ := inB_out (List.all_eq_true.mp hu us[k.toNat] (List.getElem_mem hk))
  exact tail_any hl.typeIs slot_list_getitem.lookup (wpAny_getItem_list hl h0 hhi (by simp [hk]; exact e) (h p t h2 h3)) hs
end
end

/-! ## part Fns -/
section
local macro_rules | `(tactic| walk_at "no such place") => `(tactic| skip)
theorem top_off_Fns : True := by
  w_top off
  trivial
/-- a def of the program, as it stands in the written heap -/
structure FnIs (K : Frag) (f : Addr) where
  name : Str
  qual : Str
  params : Arguments
  body : List Stmt
  scope : Scope
  dV : Value
  kV : Value
  doc : Value
  pm : Value
  cdv : Value
  ct : Value
  oc : Value
  an : Option Addr
  od : Option Addr
  osl : Array (Option Value)
  is : K.lookup f = some ⟨oc, od, .func (fnOf name qual params body scope dV kV doc pm an cdv ct), osl⟩
noncomputable def FnIs.of {K : Frag} {f : Addr} {name qual : Str} {params : Arguments} {body : List Stmt} {scope : Scope} {dV kV doc pm cdv ct oc : Value} {an od : Option Addr} {osl : Array (Option Value)}
    (is : K.lookup f = some ⟨oc, od, .func (fnOf name qual params body scope dV kV doc pm an cdv ct), osl⟩) : FnIs K f := ⟨name, qual, params, body, scope, dV, kV, doc, pm, cdv, ct, oc, an, od, osl, is⟩
noncomputable def blk (w : World) : FnIs (hd.heap_39 w.params) 176 := by
  have hfill : PySem.Challenge.rw_np0177_01 = PySem.Challenge.rw_np0177_01 ∧ hd.heap_39 = hd.heap_39 := by k_fill; exact ⟨rfl, rfl⟩
  clear hfill
  refine' FnIs.of ?is
  case is => k_is
theorem blk_len (w : World) : (blk w).body.length = 17 := by
  kernel_rfl
end

/-! ## part T12 -/
section
local macro_rules | `(tactic| walk_at "no such place") => `(tactic| skip)
local macro_rules | `(tactic| walk_at "no such place") => `(tactic| skip)
theorem top_off_T12 : True := by
  w_top off
  trivial
noncomputable abbrev blkNm : Str := Str.ofString "_law_block_right"
noncomputable abbrev benv (w : World) (L' : Addr) : Env := envOfC blkNm (blk w).scope L' 176 (.ref 175)
noncomputable abbrev cellsOf (L' : Addr) (o1 o2 o3 o4 o5 o6 o7 o8 : Obj) (tb : List (Addr × Obj)) : List (Addr × Obj) :=
  (L' + 1 + 1 + 1 + 1 + 1 + 1 + 1 + 1, o8) :: (L' + 1 + 1 + 1 + 1 + 1 + 1 + 1, o7) :: (L' + 1 + 1 + 1 + 1 + 1 + 1, o6) :: (L' + 1 + 1 + 1 + 1 + 1, o5) :: (L' + 1 + 1 + 1 + 1, o4) :: (L' + 1 + 1 + 1, o3) :: (L' + 1 + 1, o2) :: (L' + 1, o1) :: tb
set_option maxRecDepth 100000 in
set_option maxHeartbeats 8000000 in
theorem block_enter {w : World} {p : Program} {loose : List Str} {mean : ExcName → Option Value} {mg mb : Str → Option Value} {dp un : Nat} {gd : Option (List Code)} {cn : Str} {cs : Scope} {a : Addr} {ccd : Value} {cl : List (Str × Addr)} {outer : List Env} {A₀ : Around} {base h₀ : Heap} {L : Addr} {m : Str → Option Value} {s : Shared} {l : Addr} {at' : Int} {t : Tok} {tb : List (Addr × Obj)} {Q E : Value → Shared → Prop}
    (B : Below A₀ base outer h₀) (F : Fr h₀ L s.heap m) (N : News h₀ L s.heap tb) (X : (hd.heap_39 w.params).In h₀) (T : Top p loose mean mg mb h₀) (hk : cs.kind = .function) (hd' : dp + 20 < recursionLimit)
    (h : ∀ g L' h₁ tk o1 o2 o3 o4 o5 o6 o7 o8, g = hideAll s.heap (tb.map (·.1)) → Fr g L' h₁ (fun _ => none) → News g L' h₁ (cellsOf L' o1 o2 o3 o4 o5 o6 o7 o8 tb) → (∀ q ∈ tb, q.1 < L') → o1.data = .cell (some (.ref l)) → o2.data = .cell (some (.int at' t)) → o3.data = .cell none → o4.data = .cell none →
      o5.data = .cell none → o6.data = .cell none → o7.data = .cell none → o8.data = .cell none → Below (ktrTop dp un gd cn cs L a ccd cl outer) base (envX cn cs L a ccd cl :: outer) g → (hd.heap_39 w.params).In g → Top p loose mean mg mb g →
      wpAny (model PySem.Challenge.rw_np0177_01.row.prog w) ((ktrTop dp un gd cn cs L a ccd cl outer).deeper (benv w L')) (execs (blk w).body (benv w L'))
        (fun fl s' => TEnd (L :: outer.filterMap (·.frame)) g Q (match fl with | .ret v => v | _ => .none) s')
        (fun e s' => wpAny (model PySem.Challenge.rw_np0177_01.row.prog w) ((ktrTop dp un gd cn cs L a ccd cl outer).deeper (benv w L')) (leaving (benv w L') e) (fun _ s'' => E e s'') (fun e' s'' => E e' s'') s')
        { s with heap := h₁, toks := tk }) :
    wpAny (model PySem.Challenge.rw_np0177_01.row.prog w) (ktrTop dp un gd cn cs L a ccd cl outer) (call (.ref 176) [.ref l, .int at' t]) Q E s := by
  have hfill : PySem.Challenge.rw_np0177_01 = PySem.Challenge.rw_np0177_01 ∧ hd.heap_39 = hd.heap_39 := by k_fill; exact ⟨rfl, rfl⟩
  clear hfill
  have his := (blk w).is
  dsimp only [blk, FnIs.of] at his
  (refine' b_defCN (args := ⟨_, []⟩) (fs := L :: outer.filterMap (·.frame)) B F N X T ?kA ?kF ?kK his ?k7 ?k8 ?k9 ?kB ?kD ?_ ?c2 ?c3 ?c4; (case kA => exact rfl); (case kF => exact rfl); (case kK => first | exact rfl | assumption); (case k7 => k_is); (case k8 => k_room); (case k9 => first | exact BindsTo.of_eq rfl | exact binds_K (by k_in) rfl (by k_is) rfl rfl rfl); (case kB => exact rfl); (case kD => decide +kernel); (case c2 => exact rfl); (case c3 => exact rfl); (case c4 => exact rfl))
  intro g' L' h' tk' cells' eg FL F' N' Y' B' X' T' lt'
  k_cells Y'
  exact h g' L' h' tk' _ _ _ _ _ _ _ _ eg F' N' lt' (by assumption) (by assumption) (by assumption) (by assumption) (by assumption) (by assumption) (by assumption) (by assumption) B' X' T'
end

/-! ## part Shp -/
section
local macro_rules | `(tactic| walk_at "no such place") => `(tactic| skip)
local macro_rules | `(tactic| walk_at "no such place") => `(tactic| skip)
local macro_rules | `(tactic| walk_at "no such place") => `(tactic| skip)
theorem top_off_Shp : True := by
  w_top off
  trivial
section
variable {prog : Program} {w : World} {A₀ A : Around} {s : Shared} {base h₀ : Heap} {outer : List Env} {L : Addr} {m : Str → Option Value} {env : Env} {K : Frag} {p : Program} {loose : List Str} {mean : ExcName → Option Value} {mg mb : Str → Option Value}
  {name qual : Str} {params : Arguments} {body : List Stmt} {scope : Scope} {dV kV doc pm cdv ct oc : Value} {an od : Option Addr} {osl : Array (Option Value)} {f : Addr} {args : Args} {binds : List (Str × Value)} {Q E : Value → Shared → Prop} {news : List (Addr × Obj)}
theorem b_defNc (B : Below A₀ base outer h₀) (F : Fr h₀ L s.heap m) (N : News h₀ L s.heap news) (X₀ : K.In h₀) (T : Top p loose mean mg mb h₀) (hA : A.frames = some (env :: outer)) (hf : env.frame = some L) (hke : env.scope.kind = .function)
    (ho : K.lookup f = some ⟨oc, od, .func (fnOf name qual params body scope dV kV doc pm an cdv ct), osl⟩) (hcd : codeIn K cdv qual = true) (hroom : A.depth < recursionLimit)
    (hbind : BindsTo s (fnOf name qual params body scope dV kV doc pm an cdv ct) args binds) (hloc : ∀ y ∈ binds, scope.names.lookup y.1 = some .local)
    (h : ∀ g L' h₁ tk, g = hideAll s.heap (news.map (·.1)) → Fr g L' h₁ (fun y => binds.reverse.lookup y) → News g L' h₁ news → Below A base (env :: outer) g → K.In g → Top p loose mean mg mb g →
      wpAny (model prog w) (A.deeper (envOf qual scope L' f cdv)) (execs body (envOf qual scope L' f cdv))
        (fun fl s' => GEnd g Q (match fl with | .ret v => v | _ => .none) s')
        (fun e s' => wpAny (model prog w) (A.deeper (envOf qual scope L' f cdv)) (leaving (envOf qual scope L' f cdv) e) (fun _ s'' => E e s'') (fun e' s'' => E e' s'') s')
        { s with heap := h₁, toks := tk })
    (hco : scope.isCoroutine = false) (hgen : scope.isGenerator = false) (hk : scope.kind = .function)
    (hcell : ∀ x ∈ scope.names, x.2 ≠ .cell) : codeAny (model prog w) A (.call (.ref f) args) (RetTo Q E) s := by
  obtain ⟨FG, BG, st, lv⟩ := groundX (R := RetTo Q E) B F N hA hf hke
  refine codeAny_call_def (fd := fnX name qual params body scope [] dV kV doc pm an cdv ct) (body := body) (binds := binds) hroom ((X₀.keeps F.keep) _ _ ho) rfl (T.nolimit.keeps F.keep) (codeRec_of (X₀.keeps F.keep) hcd) rfl hbind hcell hloc (fun h₁ hns hk₁ => ?_) hco hgen hk
  refine wpAny_mono (h _ s.heap.objs.size h₁ _ rfl ⟨hns, fun b o e => hk₁ b o (of_hideAll _ e), Nat.le_of_eq (hideAll_size _ _)⟩
    (fun q hq => ⟨hk₁ _ _ (N q hq).1, Nat.ne_of_lt (Heap.lt_size (N q hq).1), hideAll_none _ (List.mem_map_of_mem hq)⟩) BG (X₀.keeps st) (T.keeps st)) (fun fl s' hl => ?_) fun _ _ y => y
  obtain ⟨_, _, _, _, _, q⟩ := hl
  exact q
end
section
variable {prog : Program} {w : World} {A₀ : Around} {s : Shared} {base h₀ : Heap} {outer : List Env} {L : Addr} {m : Str → Option Value} {K : Frag} {p : Program} {loose : List Str} {mean : ExcName → Option Value} {mg mb : Str → Option Value}
  {f : Addr} {Q E : Value → Shared → Prop} {news : List (Addr × Obj)}
/-- ct_use, its addresses told apart as numbers -/
theorem ct_use2 {deep units : Nat} {Pre : Heap → List Value → Prop} {Out : List (Addr × Obj) → Value → Prop} {dp un : Nat} {gd : Option (List Code)} {cn : Str} {cs : Scope} {a : Addr} {ccd : Value} {cl : List (Str × Addr)} {vs : List Value}
    (C : CT prog w K p loose mean mg mb f deep units Pre Out) (B : Below A₀ base outer h₀) (F : Fr h₀ L s.heap m) (X : K.In h₀) (N : News h₀ L s.heap news) (T : Top p loose mean mg mb h₀) (hk : cs.kind = .function) (R : Pre s.heap vs)
    (hd : dp + deep < recursionLimit) (hu : un + units < cLine)
    (ret : ∀ r tl h' tk', Fr h₀ L h' m → News h₀ L h' (tl ++ news) → Grew s.heap h' → MadeIn s.heap h' tl → (∀ q ∈ news, ∀ p ∈ tl, @Ne Nat p.1 q.1) → Out tl r → Q r { s with heap := h', toks := tk' }) :
    wpAny (model prog w) (ktrTop dp un gd cn cs L a ccd cl outer) (call (.ref f) vs) Q E s := ct_use C B F X N T hk R hd hu ret
end
set_option maxRecDepth 100000 in
set_option maxHeartbeats 8000000 in
theorem shape_ct {w : World} {p : Program} {loose : List Str} {mean : ExcName → Option Value} {mg mb : Str → Option Value} {sec slab : Int} :
    CT PySem.Challenge.rw_np0177_01.row.prog w (hd.heap_39 w.params) p loose mean mg mb 146 3 24 (fun _ vs => ∃ t t', vs = [.int sec t, .int slab t'])
      (fun tl r => ∃ sh d t1 t2 ts us, r = .ref sh ∧ tl = [(sh, instObj 146 d), (d, shapeDict w.params (.int sec t1) (.int slab t2) ts us)]) := by
  have hfill : PySem.Challenge.rw_np0177_01 = PySem.Challenge.rw_np0177_01 ∧ hd.heap_39 = hd.heap_39 := by k_fill; exact ⟨rfl, rfl⟩
  clear hfill
  unfold CT
  intro dp un gd cn cs a ccd cl outer A₀ base h₀ L m s vs Q E B F X T hk hR hd' hu hret
  obtain ⟨t, t', rfl⟩ := hR
  obtain ⟨hh, gg, dd, tk, os⟩ := s
  refine' wpAny_call (make_core (makes_of (X.keeps F.keep) ?hm) (looks_findIn (X.keeps F.keep) ?hi) (fun self => bind_fn (X.keeps F.keep) self ?hf) (.inl rfl) ?_)
  case hm => k_is
  case hi => k_is
  case hf => k_is
  have N₀ : News h₀ L ((hh.push emptyDict).push (instObj 146 hh.objs.size)) [(hh.objs.size + 1, instObj 146 hh.objs.size), (hh.objs.size, emptyDict)] := by
    have := ((News.nil (h₀ := h₀) (L := L) (h := hh)).push F emptyDict).push (F.push _) (instObj 146 hh.objs.size)
    rwa [Heap.size_push] at this
  have F₁ : Fr h₀ L ((hh.push emptyDict).push (instObj 146 hh.objs.size)) m := (F.push _).push _
  have X₁ : (hd.heap_39 w.params).In ((hh.push emptyDict).push (instObj 146 hh.objs.size)) := X.keeps F₁.keep
  have F1up : ∀ b o, hh.get? b = some o → ((hh.push emptyDict).push (instObj 146 hh.objs.size)).get? b = some o := fun b o q => Heap.get?_push_of_some _ (Heap.get?_push_of_some _ q)
  refine codeAny_mono (R := RetTo (fun v s' => v = .none ∧ Q (.ref (hh.objs.size + 1)) s') E) ?_ (fun r s' z => ?_)
  rotate_left
  · rcases r with e | (v | _ | _ | _) <;> first | exact z | exact z.elim | skip
  (refine' b_defNc B F₁ N₀ X T ?kA ?kF ?kK ?k6 ?k7 ?k8 ?k9 ?kB ?_ ?c2 ?c3 ?c4 ?c5; (case kA => exact rfl); (case kF => exact rfl); (case kK => first | exact rfl | assumption); (case k6 => k_is); (case k7 => k_is); (case k8 => k_room); (case k9 => first | exact BindsTo.of_eq rfl | exact binds_K X₁ rfl (by k_is) rfl rfl rfl); (case c5 => decide); (case kB => exact locs rfl); (case c2 => exact rfl); (case c3 => exact rfl); (case c4 => exact rfl))
  intro g' L' h' tk' e' F' N' B' X' T'
  obtain ⟨r1, r2, r3, r4, r5, r6, r7, r8, r9, F₂⟩ := (show ∃ r1 r2 r3 r4 r5 r6 r7 r8 r9, Fr g' L' h' (fun y => List.lookup y [(Str.ofString "zap", r9), (Str.ofString "config", r8), (Str.ofString "uber", r7), (Str.ofString "most_record", r6), (Str.ofString "defer", r5), (Str.ofString "ring", r4), (Str.ofString "dnodes", r3), (Str.ofString "fan", r2), (Str.ofString "record", r1),
    (Str.ofString "slab", Value.int slab t'), (Str.ofString "sector", Value.int sec t), (Str.ofString "self", Value.ref (hh.objs.size + 1))]) from ⟨_, _, _, _, _, _, _, _, _, F'⟩)
  clear F'
  (try dsimp only)
  (try k_fold)
  k_steps
  rename Fr g' L' _ _ => F9
  rename News g' L' _ _ => N9
  refine ⟨_, _, _, F9, N9, rfl, hret _ _ _ _ (fun b o q => F9.keep _ _ ?_) (fun q hq => ⟨(N9 q hq).1, ?_⟩) ⟨_, _, _, _, (_ :: _ :: _ :: _ :: _ :: _ :: _ :: _ :: _ :: _ :: _ :: []), (_ :: _ :: _ :: _ :: _ :: _ :: _ :: _ :: _ :: []), rfl, rfl⟩⟩
  · have hb : b < hh.objs.size := Heap.lt_size q
    rw [e']
    exact hideAll_get _ (F1up _ _ q) (by
      intro hm
      rcases List.mem_cons.mp hm with hm | hm
      · exact absurd (hm ▸ hb) (Nat.not_lt.mpr (Nat.le_succ _))
      · exact absurd ((List.mem_singleton.mp hm) ▸ hb) (Nat.lt_irrefl _))
  · rcases List.mem_cons.mp hq with rfl | hq
    · exact Heap.get?_none_of_le (Nat.le_succ _)
    · rw [List.mem_singleton.mp hq]; exact Heap.get?_none_of_le (Nat.le_refl _)
end

/-! ## part T13 -/
section
theorem top_off_T13 : True := by
  w_top off
  trivial
set_option hygiene false
theorem fm_bd (a : Int) {k : Int} (h : 0 < k) : 0 ≤ a.fmod k ∧ a.fmod k < k := ⟨Int.fmod_nonneg_of_pos _ h, Int.fmod_lt_of_pos _ h⟩
theorem tb_off {tb : List (Addr × Obj)} {L k : Addr} (h : ∀ q ∈ tb, q.1 < L) (hk : @LT.lt Nat _ L k) : ∀ p ∈ tb, p.1 ≠ k := fun p hp e => absurd (e ▸ h p hp) (Nat.not_lt.mpr (Nat.le_of_lt hk))
local macro_rules | `(tactic| walk_at "call ref") => `(tactic| (k_here; (with_reducible show wpAny _ _ (call (Value.ref 146) _) _ _ _); k_dflt (refine' ct_use2 shape_ct ?B ?F ?X ?N ?T ?k ?R ?d ?u ?_; (case B => k_asm); (case F => k_asm); (case X => k_asm); (case N => k_asm); (case T => k_asm); (case k => first | exact rfl | assumption); (case d => ktr_room); (case u => ktr_units); (case R => exact ⟨_, _, rfl⟩); intro r9 tl9 h9 tk9 F9 N9 g9 m9 d9 o9; obtain ⟨sh9, dx9, t19, t29, ts9, us9, hr9, ht9⟩ := o9; subst hr9; subst ht9; clear m9 g9; (try simp only [List.nil_append, List.cons_append] at N9); (try simp only [List.forall_mem_cons, List.not_mem_nil, false_implies, implies_true, forall_const, List.mem_cons, or_false, forall_eq, forall_eq_or_imp, and_true] at d9))))
local macro_rules | `(tactic| walk_at "call ref") => `(tactic| (k_here; (with_reducible show wpAny _ _ (call (Value.ref 157) _) _ _ _); k_dflt (refine' ct_use (digit_ct ?a1 ?a2 ?a3) ?B ?F ?X ?N ?T ?k ?R ?d ?u ?_; (case B => k_asm); (case F => k_asm); (case X => k_asm); (case N => k_asm); (case T => k_asm); (case k => first | exact rfl | assumption); (case d => ktr_room); (case u => ktr_units); (case R => exact ⟨_, _, _, rfl, Heap.IsList.at (by assumption) fun o9 e9 => Fr.keep (by k_asm) _ o9 e9, by assumption⟩); (case a1 => omega); (case a2 => omega); (case a3 => omega); intro r9 tl9 h9 tk9 F9 N9 g9 m9 d9 o9; obtain ⟨ht9, t9, hr9⟩ := o9; subst hr9; subst ht9; clear m9 d9 g9; (try simp only [List.nil_append] at N9))))
local macro_rules | `(tactic| walk_at "subscriptTail") => `(tactic| (k_here; (with_reducible show wpAny _ _ (subscriptTail _ _ (Value.ref _) (Value.int _ _)) _ _ _); (try k_fmods); k_dflt (first
  | (refine' menu_abs (lo := 4) (hi := 16) ?N ?m ?i ?a ?b ?c ?_; (case N => k_asm); (case m => k_mem); (case i => rfl))
  | (refine' menu_abs (lo := 4) (hi := 32) ?N ?m ?i ?a ?b ?c ?_; (case N => k_asm); (case m => k_mem); (case i => rfl))
  | (refine' menu_abs (lo := 0) (hi := 4) ?N ?m ?i ?a ?b ?c ?_; (case N => k_asm); (case m => k_mem); (case i => rfl))); (case a => omega); (case b => (simp only [List.length_cons, List.length_nil]; omega)); (case c => omega); intro _ _ _ _))
local macro_rules | `(tactic| walk_at "execs cons") => `(tactic| (k_here; (with_reducible show wpAny _ _ (execs (Stmt.If _ _ _ _ :: _) _) _ _ _); (refine stop_of ?_)))
local macro_rules | `(tactic| k_ne) => `(tactic| (refine neN ?_; (try dsimp only); first | exact And.left (And.left (And.right (And.right (And.right (And.right (by assumption)))))) | exact And.right (And.left (And.right (And.right (And.right (And.right (by assumption)))))) | omega))
set_option maxRecDepth 100000 in
set_option maxHeartbeats 8000000 in
theorem block_head2 {w : World} {p : Program} {loose : List Str} {mean : ExcName → Option Value} {mg mb : Str → Option Value} {dp un : Nat} {gd : Option (List Code)} {cn : Str} {cs : Scope} {a : Addr} {ccd : Value} {cl : List (Str × Addr)} {outer : List Env} {base g : Heap} {L L' : Addr} {s : Shared} {l : Addr} {at' : Int} {t : Tok} {xs : List Value} {ns : List Int} {o1 o2 o3 o4 o5 o6 o7 o8 : Obj} {tb : List (Addr × Obj)} {vx : Value} {Qf : Flow → Shared → Prop} {Ef : Value → Shared → Prop}
    (h0 : 0 ≤ at') (h1 : at' ≤ 25) (h2 : ns.length ≤ 63) (hl : g.IsList l xs.toArray) (hi : IntsAre xs ns) (hlt : ∀ q ∈ tb, q.1 < L') (hd' : dp + 20 < recursionLimit) (hu : un + 200 < cLine)
    (d1 : o1.data = .cell (some (.ref l))) (d2 : o2.data = .cell (some (.int at' t))) (B : Below (ktrTop dp un gd cn cs L a ccd cl outer) base (envX cn cs L a ccd cl :: outer) g) (X : (hd.heap_39 w.params).In g) (T : Top p loose mean mg mb g)
    (F : Fr g L' s.heap (fun z => if z = Str.ofString "x" then some vx else none)) (N : News g L' s.heap (cellsOf L' o1 o2 o3 o4 o5 o6 o7 o8 tb)) (d6 : o6.data = .cell none)
    (next : ∀ (sec slab : Int) (sh d : Addr) (t1 t2 : Tok) (ts : List Tok) (vs : List Value) (o6 : Obj) h' tk', 4 ≤ sec → sec ≤ 16 → 4 ≤ slab → slab ≤ 32 → o6.data = .cell (some (.ref sh)) →
      Fr g L' h' (fun z => if z = Str.ofString "x" then some vx else none) → News g L' h' ((sh, instObj 146 d) :: (d, shapeDict w.params (.int sec t1) (.int slab t2) ts vs) :: cellsOf L' o1 o2 o3 o4 o5 o6 o7 o8 tb) →
      wpAny (model PySem.Challenge.rw_np0177_01.row.prog w) ((ktrTop dp un gd cn cs L a ccd cl outer).deeper (benv w L')) (execs ((blk w).body.drop 4) (benv w L')) Qf Ef { s with heap := h', toks := tk' }) :
    wpAny (model PySem.Challenge.rw_np0177_01.row.prog w) ((ktrTop dp un gd cn cs L a ccd cl outer).deeper (benv w L')) (execs ((blk w).body.drop 3) (benv w L')) Qf Ef s := by
  have hfill : PySem.Challenge.rw_np0177_01 = PySem.Challenge.rw_np0177_01 ∧ hd.heap_39 = hd.heap_39 := by k_fill; exact ⟨rfl, rfl⟩
  clear hfill
  dsimp only [blk, FnIs.of, List.drop] at next ⊢
  have z4 := tb_off hlt (k := L' + 1 + 1 + 1 + 1) (by omega)
  have z5 := tb_off hlt (k := L' + 1 + 1 + 1 + 1 + 1) (by omega)
  have z6 := tb_off hlt (k := L' + 1 + 1 + 1 + 1 + 1 + 1) (by omega)
  have z7 := tb_off hlt (k := L' + 1 + 1 + 1 + 1 + 1 + 1 + 1) (by omega)
  have z8 := tb_off hlt (k := L' + 1 + 1 + 1 + 1 + 1 + 1 + 1 + 1) (by omega)
  k_steps
  unfold Stop
  rename Fr g L' _ _ => F9
  rename News g L' _ _ => N9
  refine' next _ _ _ _ _ _ _ _ _ _ _ ?b1 ?b2 ?b3 ?b4 ?d6 F9 (fun p hp => N9 p (by
    rcases List.mem_cons.mp hp with rfl | hp
    · exact .head _
    rcases List.mem_cons.mp hp with rfl | hp
    · exact .tail _ (.head _)
    exact .tail _ (.tail _ (.tail _ (.tail _ hp)))))
  case d6 => assumption
  all_goals omega
local macro_rules | `(tactic| walk_at "execs cons") => `(tactic| (k_here; (with_reducible show wpAny _ _ (execs (Stmt.Assign [Expr.Name _ _] (Expr.Call (Expr.Name _ _) _ _ _) _ :: _) _) _ _ _); (refine stop_of ?_)))
set_option maxRecDepth 100000 in
set_option maxHeartbeats 8000000 in
theorem block_head1 {w : World} {p : Program} {loose : List Str} {mean : ExcName → Option Value} {mg mb : Str → Option Value} {dp un : Nat} {gd : Option (List Code)} {cn : Str} {cs : Scope} {a : Addr} {ccd : Value} {cl : List (Str × Addr)} {outer : List Env} {base g : Heap} {L L' : Addr} {s : Shared} {l : Addr} {at' : Int} {t : Tok} {xs : List Value} {ns : List Int} {o1 o2 o3 o4 o5 o6 o7 o8 : Obj} {tb : List (Addr × Obj)} {Qf : Flow → Shared → Prop} {Ef : Value → Shared → Prop}
    (h0 : 0 ≤ at') (h1 : at' ≤ 25) (h2 : ns.length ≤ 63) (hl : g.IsList l xs.toArray) (hi : IntsAre xs ns) (hlt : ∀ q ∈ tb, q.1 < L') (hd' : dp + 20 < recursionLimit) (hu : un + 200 < cLine)
    (d1 : o1.data = .cell (some (.ref l))) (d2 : o2.data = .cell (some (.int at' t))) (B : Below (ktrTop dp un gd cn cs L a ccd cl outer) base (envX cn cs L a ccd cl :: outer) g) (X : (hd.heap_39 w.params).In g) (T : Top p loose mean mg mb g)
    (F : Fr g L' s.heap (fun _ => none)) (N : News g L' s.heap (cellsOf L' o1 o2 o3 o4 o5 o6 o7 o8 tb)) (d3 : o3.data = .cell none) (d4 : o4.data = .cell none)
    (d5 : o5.data = .cell none) (d6 : o6.data = .cell none) (d7 : o7.data = .cell none) (d8 : o8.data = .cell none)
    (next : ∀ (W Z P S : Int) (tW tZ tP tS : Tok) (vx : Value) (o4 o5 o7 o8 : Obj) h' tk', 2 ≤ W → W < 10 → 1 ≤ Z → Z ≤ 200 → 0 ≤ S → S < 400 →
      o4.data = .cell (some (.int P tP)) → o5.data = .cell (some (.int S tS)) → o7.data = .cell (some (.int Z tZ)) → o8.data = .cell (some (.int W tW)) →
      Fr g L' h' (fun z => if z = Str.ofString "x" then some vx else none) → News g L' h' (cellsOf L' o1 o2 o3 o4 o5 o6 o7 o8 tb) →
      wpAny (model PySem.Challenge.rw_np0177_01.row.prog w) ((ktrTop dp un gd cn cs L a ccd cl outer).deeper (benv w L')) (execs ((blk w).body.drop 3) (benv w L')) Qf Ef { s with heap := h', toks := tk' }) :
    wpAny (model PySem.Challenge.rw_np0177_01.row.prog w) ((ktrTop dp un gd cn cs L a ccd cl outer).deeper (benv w L')) (execs ((blk w).body) (benv w L')) Qf Ef s := by
  have hfill : PySem.Challenge.rw_np0177_01 = PySem.Challenge.rw_np0177_01 ∧ hd.heap_39 = hd.heap_39 := by k_fill; exact ⟨rfl, rfl⟩
  clear hfill
  dsimp only [blk, FnIs.of, List.drop] at next ⊢
  have z4 := tb_off hlt (k := L' + 1 + 1 + 1 + 1) (by omega)
  have z5 := tb_off hlt (k := L' + 1 + 1 + 1 + 1 + 1) (by omega)
  have z6 := tb_off hlt (k := L' + 1 + 1 + 1 + 1 + 1 + 1) (by omega)
  have z7 := tb_off hlt (k := L' + 1 + 1 + 1 + 1 + 1 + 1 + 1) (by omega)
  have z8 := tb_off hlt (k := L' + 1 + 1 + 1 + 1 + 1 + 1 + 1 + 1) (by omega)
  have f1 := fm_bd (digit ns at') (k := 8) (by decide)
  have f2 := fm_bd (digit ns (at' + 1)) (k := 200) (by decide)
  have f3 := fm_bd (digit ns (at' + 2)) (k := 400) (by decide)
  k_steps
  unfold Stop
  rename Fr _ _ _ _ => F9
  rename News _ _ _ _ => N9
  refine' next _ _ _ _ _ _ _ _ _ _ _ _ _ _ _ ?b1 ?b2 ?b3 ?b4 ?b5 ?b6 ?d4 ?d5 ?d7 ?d8 F9 (fun p hp => N9 p (.tail _ (.tail _ (.tail _ hp))))
  case d4 => assumption
  case d5 => assumption
  case d7 => assumption
  case d8 => assumption
  all_goals omega
end

local macro_rules | `(tactic| walk_at "callWith ref") => `(tactic| (k_here; (with_reducible show wpAny _ _ (callWith _ (Value.ref _) _ (backTo _ (starEach (_ :: _) _)) []) _ _ _); k_dflt (refine' callWith_K ?k1 ?k2 ?_; (case k1 => k_asm); (case k2 => k_is); k_whole)))

/-! ## part T14 -/
section
theorem top_off_T14 : True := by
  w_top off
  trivial
set_option hygiene false
/-- the qualified name of the block's lambdas -/
noncomputable abbrev lamQ (w : World) : Str := (benv w 0).qual ++ "<lambda>"
/-- the block's own table of codes: nothing yet, or the two lambdas -/
noncomputable def TabNews (w : World) (tb : List (Addr × Obj)) : Prop :=
  tb = [(173, tabObj #[])] ∨ ∃ c1 c2 oc1 oc2 v1 v2 t1 t2, tb = [(173, tabObj #[rawInt 100, rawInt 32, .ref c1, rawInt 101, rawInt 39, .ref c2]), (c1, oc1), (c2, oc2)] ∧ oc1.data = .fields v1 ∧ v1[1]? = some (.str (lamQ w) t1) ∧ oc2.data = .fields v2 ∧ v2[1]? = some (.str (lamQ w) t2)
section
variable {A₀ : Around} {base g : Heap} {outer : List Env} {K : Frag} {p : Program} {loose : List Str} {mean : ExcName → Option Value} {mg mb : Str → Option Value}
theorem mis_in (X : K.In base) (B : Below A₀ base outer g) : K.In g := X.keeps B.stays
theorem mis_top (T : Top p loose mean mg mb base) (B : Below A₀ base outer g) : Top p loose mean mg mb g := T.keeps B.stays
theorem turn_trans {fs : List Addr} {a b c : Heap} (x : KtsTurn fs a b) (y : KtsTurn fs b c) : KtsTurn fs a c :=
  ⟨y.size.trans x.size, fun z h => y.none_ z (x.none_ z h), fun z o h n => y.other z o (x.other z o h n) n, fun z o h m => by
    obtain ⟨sl, e⟩ := x.frame z o h m
    obtain ⟨sl', e'⟩ := y.frame z _ e m
    exact ⟨sl', e'⟩⟩
end
local macro_rules | `(tactic| walk_at "call ref") => `(tactic| (k_here; (with_reducible show wpAny _ _ (call (Value.ref 171) _) _ _ _); k_dflt (refine' misused_run (lamA_raises ?h4) ?hP ?hFn ?B ?F ?X ?T ?XB ?TB ?k ?d ?u ?_; (case h4 => assumption); (case hP => (intro h9 g9; exact ⟨rfl, g9 _ _ (News.get (by k_asm) (by k_mem)), code_in (by k_asm) g9 (by k_mem) (by assumption) (by assumption), cell_in (by k_asm) g9 (by k_mem) (by assumption), cell_in (by k_asm) g9 (by k_mem) (by assumption), cell_in (by k_asm) g9 (by k_mem) (by assumption), cell_in (by k_asm) g9 (by k_mem) (by assumption)⟩)); (case hFn => exact ⟨_, _, _, _, News.get (by k_asm) (by k_mem)⟩); (case B => k_asm); (case F => k_asm); (case X => k_asm); (case T => k_asm); (case XB => assumption); (case TB => assumption); (case k => first | exact rfl | assumption); (case d => ktr_room); (case u => ktr_units)); (intro h9 tk9 U9); (obtain ⟨g9, T9, F9, N9f, B9⟩ := mis_ground (by k_asm) (by k_asm) U9); (have N9 := N9f _ (by k_asm)); (clear N9f U9); (have X9 := mis_in (by k_asm) B9); (have P9 := mis_top (by k_asm) B9)))
local macro_rules | `(tactic| walk_at "call ref") => `(tactic| (k_here; (with_reducible show wpAny _ _ (call (Value.ref 171) _) _ _ _); k_dflt (refine' misused_run (lamC_raises ?h4) ?hP ?hFn ?B ?F ?X ?T ?XB ?TB ?k ?d ?u ?_; (case h4 => assumption); (case hP => (intro h9 g9; exact ⟨rfl, g9 _ _ (News.get (by k_asm) (by k_mem)), code_in (by k_asm) g9 (by k_mem) (by assumption) (by assumption), cell_in (by k_asm) g9 (by k_mem) (by assumption), cell_in (by k_asm) g9 (by k_mem) (by assumption), cell_in (by k_asm) g9 (by k_mem) (by assumption), cell_in (by k_asm) g9 (by k_mem) (by assumption), cell_in (by k_asm) g9 (by k_mem) (by assumption)⟩)); (case hFn => exact ⟨_, _, _, _, News.get (by k_asm) (by k_mem)⟩); (case B => k_asm); (case F => k_asm); (case X => k_asm); (case T => k_asm); (case XB => assumption); (case TB => assumption); (case k => first | exact rfl | assumption); (case d => ktr_room); (case u => ktr_units)); (intro h9 tk9 U9); (obtain ⟨g9, T9, F9, N9f, B9⟩ := mis_ground (by k_asm) (by k_asm) U9); (have N9 := N9f _ (by k_asm)); (clear N9f U9); (have X9 := mis_in (by k_asm) B9); (have P9 := mis_top (by k_asm) B9)))
theorem news3 {h₀ h : Heap} {L : Addr} {news : List (Addr × Obj)} {p1 p2 p3 : Addr × Obj} (N : News h₀ L h news) (a : p1 ∈ news) (b : p2 ∈ news) (c : p3 ∈ news) : News h₀ L h [p1, p2, p3] := fun p hp => by
  rcases List.mem_cons.mp hp with rfl | hp
  · exact N _ a
  rcases List.mem_cons.mp hp with rfl | hp
  · exact N _ b
  · rw [List.mem_singleton.mp hp]; exact N _ c
noncomputable def ifBody (w : World) : List Stmt := match (blk w).body.drop 4 with
  | .If _ b _ _ :: _ => b
  | _ => []
set_option maxRecDepth 100000 in
set_option maxHeartbeats 8000000 in
theorem block_bad0 {w : World} {p : Program} {loose : List Str} {mean : ExcName → Option Value} {mg mb : Str → Option Value} {dp un : Nat} {gd : Option (List Code)} {cn : Str} {cs : Scope} {a : Addr} {ccd : Value} {cl : List (Str × Addr)} {outer : List Env} {base g : Heap} {L L' : Addr} {s : Shared} {o1 o2 o3 o4 o5 o6 o7 o8 : Obj} {Qf : Flow → Shared → Prop} {Ef : Value → Shared → Prop}
    {W Z P S : Int} {tW tZ tP tS : Tok} {vx : Value} {sh : Addr} (hk : cs.kind = .function) (hd' : dp + 20 < recursionLimit) (hu : un + 200 < cLine) (hbad : ¬ (1 ≤ P ∧ P ≤ 3 ∧ P < W)) (CB : CodeHd base 175 173)
    (B : Below (ktrTop dp un gd cn cs L a ccd cl outer) base (envX cn cs L a ccd cl :: outer) g) (X : (hd.heap_39 w.params).In g) (T : Top p loose mean mg mb g) (XB : (hd.heap_39 w.params).In base) (TB : Top p loose mean mg mb base)
    (d4 : o4.data = .cell (some (.int P tP))) (d5 : o5.data = .cell (some (.int S tS))) (d6 : o6.data = .cell (some (.ref sh))) (d7 : o7.data = .cell (some (.int Z tZ))) (d8 : o8.data = .cell (some (.int W tW))) (h173 : @LT.lt Nat _ 173 L')
    (F : Fr g L' s.heap (fun z => if z = Str.ofString "x" then some vx else none)) (N : News g L' s.heap (cellsOf L' o1 o2 o3 o4 o5 o6 o7 o8 [(173, tabObj #[])]))
    (hret : ∀ g' h' tk' m' tb', KtsTurn (L :: outer.filterMap (·.frame)) g g' → Fr g' L' h' m' → News g' L' h' tb' → TabNews w tb' → Qf (.ret (.bool true)) { s with heap := h', toks := tk' }) :
    wpAny (model PySem.Challenge.rw_np0177_01.row.prog w) ((ktrTop dp un gd cn cs L a ccd cl outer).deeper (benv w L')) (execs (ifBody w) (benv w L')) Qf Ef s := by
  have hfill : PySem.Challenge.rw_np0177_01 = PySem.Challenge.rw_np0177_01 ∧ hd.heap_39 = hd.heap_39 := by k_fill; exact ⟨rfl, rfl⟩
  clear hfill
  dsimp only [ifBody, blk, FnIs.of, List.drop]
  k_steps
  rename News _ L' _ _ => N9
  rename Fr _ L' _ _ => F9
  refine' hret _ _ _ _ [(173, tabObj #[rawInt 100, rawInt 32, .ref _, rawInt 101, rawInt 39, .ref _]), (_, _), (_, _)] (KtsTurn.trans (by assumption) (by assumption)) F9 (news3 N9 ?m1 ?m2 ?m3) (.inr ⟨_, _, _, _, _, _, _, _, rfl, ?d1, ?d2, ?d3, ?d4⟩)
  case m1 => k_mem
  case m2 => k_mem
  case m3 => k_mem
  case d1 => assumption
  case d2 => assumption
  case d3 => assumption
  case d4 => assumption
set_option maxRecDepth 100000 in
set_option maxHeartbeats 8000000 in
theorem block_bad1 {w : World} {p : Program} {loose : List Str} {mean : ExcName → Option Value} {mg mb : Str → Option Value} {dp un : Nat} {gd : Option (List Code)} {cn : Str} {cs : Scope} {a : Addr} {ccd : Value} {cl : List (Str × Addr)} {outer : List Env} {base g : Heap} {L L' : Addr} {s : Shared} {o1 o2 o3 o4 o5 o6 o7 o8 : Obj} {Qf : Flow → Shared → Prop} {Ef : Value → Shared → Prop}
    {W Z P S : Int} {tW tZ tP tS : Tok} {vx : Value} {sh : Addr} {c1 c2 : Addr} {oc1 oc2 : Obj} {v1 v2 : Array Value} {t1 t2 : Tok} (hk : cs.kind = .function) (hd' : dp + 20 < recursionLimit) (hu : un + 200 < cLine) (hbad : ¬ (1 ≤ P ∧ P ≤ 3 ∧ P < W)) (CB : CodeHd base 175 173)
    (B : Below (ktrTop dp un gd cn cs L a ccd cl outer) base (envX cn cs L a ccd cl :: outer) g) (X : (hd.heap_39 w.params).In g) (T : Top p loose mean mg mb g) (XB : (hd.heap_39 w.params).In base) (TB : Top p loose mean mg mb base)
    (d4 : o4.data = .cell (some (.int P tP))) (d5 : o5.data = .cell (some (.int S tS))) (d6 : o6.data = .cell (some (.ref sh))) (d7 : o7.data = .cell (some (.int Z tZ))) (d8 : o8.data = .cell (some (.int W tW))) (h173 : @LT.lt Nat _ 173 L') (hc1 : @LT.lt Nat _ c1 L') (hc2 : @LT.lt Nat _ c2 L') (f1 : oc1.data = .fields v1) (f2 : v1[1]? = some (.str (lamQ w) t1)) (f3 : oc2.data = .fields v2) (f4 : v2[1]? = some (.str (lamQ w) t2))
    (F : Fr g L' s.heap (fun z => if z = Str.ofString "x" then some vx else none)) (N : News g L' s.heap (cellsOf L' o1 o2 o3 o4 o5 o6 o7 o8 [(173, tabObj #[rawInt 100, rawInt 32, .ref c1, rawInt 101, rawInt 39, .ref c2]), (c1, oc1), (c2, oc2)]))
    (hret : ∀ g' h' tk' m' tb', KtsTurn (L :: outer.filterMap (·.frame)) g g' → Fr g' L' h' m' → News g' L' h' tb' → TabNews w tb' → Qf (.ret (.bool true)) { s with heap := h', toks := tk' }) :
    wpAny (model PySem.Challenge.rw_np0177_01.row.prog w) ((ktrTop dp un gd cn cs L a ccd cl outer).deeper (benv w L')) (execs (ifBody w) (benv w L')) Qf Ef s := by
  have hfill : PySem.Challenge.rw_np0177_01 = PySem.Challenge.rw_np0177_01 ∧ hd.heap_39 = hd.heap_39 := by k_fill; exact ⟨rfl, rfl⟩
  clear hfill
  dsimp only [ifBody, blk, FnIs.of, List.drop]
  k_steps
  rename News _ L' _ _ => N9
  rename Fr _ L' _ _ => F9
  refine' hret _ _ _ _ [(173, tabObj #[rawInt 100, rawInt 32, .ref c1, rawInt 101, rawInt 39, .ref c2]), (c1, oc1), (c2, oc2)] (KtsTurn.trans (by assumption) (by assumption)) F9 (news3 N9 ?m1 ?m2 ?m3) (.inr ⟨_, _, _, _, _, _, _, _, rfl, f1, f2, f3, f4⟩)
  case m1 => k_mem
  case m2 => k_mem
  case m3 => k_mem
end

/-! ## part T15 -/
section
theorem top_off_T15 : True := by
  w_top off
  trivial
local macro_rules | `(tactic| walk_at "execs cons") => `(tactic| (k_here; (with_reducible show wpAny _ _ (execs (Stmt.Assign [Expr.Name _ _] _ _ :: _) _) _ _ _); (refine stop_of ?_)))
set_option maxRecDepth 100000 in
set_option maxHeartbeats 8000000 in
theorem block_if {w : World} {p : Program} {loose : List Str} {mean : ExcName → Option Value} {mg mb : Str → Option Value} {dp un : Nat} {gd : Option (List Code)} {cn : Str} {cs : Scope} {a : Addr} {ccd : Value} {cl : List (Str × Addr)} {outer : List Env} {base g : Heap} {L L' : Addr} {s : Shared} {o1 o2 o3 o4 o5 o6 o7 o8 : Obj} {Qf : Flow → Shared → Prop} {Ef : Value → Shared → Prop}
    {W Z P S : Int} {tW tZ tP tS : Tok} {vx : Value} {sh d : Addr} {dob : Obj} {tb : List (Addr × Obj)} (hk : cs.kind = .function) (hd' : dp + 20 < recursionLimit) (hu : un + 200 < cLine) (CB : CodeHd base 175 173)
    (B : Below (ktrTop dp un gd cn cs L a ccd cl outer) base (envX cn cs L a ccd cl :: outer) g) (X : (hd.heap_39 w.params).In g) (T : Top p loose mean mg mb g) (XB : (hd.heap_39 w.params).In base) (TB : Top p loose mean mg mb base)
    (d4 : o4.data = .cell (some (.int P tP))) (d5 : o5.data = .cell (some (.int S tS))) (d6 : o6.data = .cell (some (.ref sh))) (d7 : o7.data = .cell (some (.int Z tZ))) (d8 : o8.data = .cell (some (.int W tW))) (hlt : ∀ q ∈ tb, q.1 < L') (htb : TabNews w tb)
    (F : Fr g L' s.heap (fun z => if z = Str.ofString "x" then some vx else none)) (N : News g L' s.heap ((sh, instObj 146 d) :: (d, dob) :: cellsOf L' o1 o2 o3 o4 o5 o6 o7 o8 tb))
    (hret : ∀ g' h' tk' m' tb', KtsTurn (L :: outer.filterMap (·.frame)) g g' → Fr g' L' h' m' → News g' L' h' tb' → TabNews w tb' → Qf (.ret (.bool true)) { s with heap := h', toks := tk' })
    (good : ∀ h' tk', 1 ≤ P → P ≤ 3 → P < W → Fr g L' h' (fun z => if z = Str.ofString "x" then some vx else none) → News g L' h' ((sh, instObj 146 d) :: (d, dob) :: cellsOf L' o1 o2 o3 o4 o5 o6 o7 o8 tb) →
      wpAny (model PySem.Challenge.rw_np0177_01.row.prog w) ((ktrTop dp un gd cn cs L a ccd cl outer).deeper (benv w L')) (execs ((blk w).body.drop 5) (benv w L')) Qf Ef { s with heap := h', toks := tk' }) :
    wpAny (model PySem.Challenge.rw_np0177_01.row.prog w) ((ktrTop dp un gd cn cs L a ccd cl outer).deeper (benv w L')) (execs ((blk w).body.drop 4) (benv w L')) Qf Ef s := by
  have hfill : PySem.Challenge.rw_np0177_01 = PySem.Challenge.rw_np0177_01 ∧ hd.heap_39 = hd.heap_39 := by k_fill; exact ⟨rfl, rfl⟩
  clear hfill
  dsimp only [blk, FnIs.of, List.drop] at good ⊢
  k_steps
  all_goals unfold Stop
  · rename News g L' _ _ => N9
    rename Fr g L' _ _ => F9
    rename P < _ => hP
    have hP' : P < W ∧ P < 4 := by split at hP <;> omega
    exact good _ _ (by omega) (by omega) hP'.1 F9 N9
  · rename News g L' _ _ => N9
    rename Fr g L' _ _ => F9
    rename ¬ P < _ => hP
    have hP' : ¬ (1 ≤ P ∧ P ≤ 3 ∧ P < W) := by split at hP <;> omega
    rcases htb with rfl | ⟨c1, c2, oc1, oc2, v1, v2, t1, t2, rfl, f1, f2, f3, f4⟩
    · exact block_bad0 hk hd' hu hP' CB B X T XB TB d4 d5 d6 d7 d8 (hlt _ (.head _)) F9 (fun p hp => N9 p (.tail _ (.tail _ hp))) hret
    · exact block_bad1 hk hd' hu hP' CB B X T XB TB d4 d5 d6 d7 d8 (hlt _ (.head _)) (hlt _ (.tail _ (.head _))) (hlt _ (.tail _ (.tail _ (.head _)))) f1 f2 f3 f4 F9 (fun p hp => N9 p (.tail _ (.tail _ hp))) hret
  · have hP' : ¬ (1 ≤ P ∧ P ≤ 3 ∧ P < W) := by omega
    rcases htb with rfl | ⟨c1, c2, oc1, oc2, v1, v2, t1, t2, rfl, f1, f2, f3, f4⟩
    · exact block_bad0 hk hd' hu hP' CB B X T XB TB d4 d5 d6 d7 d8 (hlt _ (.head _)) F (fun p hp => N p (.tail _ (.tail _ hp))) hret
    · exact block_bad1 hk hd' hu hP' CB B X T XB TB d4 d5 d6 d7 d8 (hlt _ (.head _)) (hlt _ (.tail _ (.head _))) (hlt _ (.tail _ (.tail _ (.head _)))) f1 f2 f3 f4 F (fun p hp => N p (.tail _ (.tail _ hp))) hret
end

/-! ## part T16 -/
section
theorem top_off_T16 : True := by
  w_top off
  trivial
set_option hygiene false
theorem many_up {Z sec : Int} (h : 0 < sec) : -(-Z).fdiv sec = (Z + sec - 1) / sec := by
  rw [rows_eq h]
  have h1 := Int.mul_ediv_add_emod Z sec
  have h2 := Int.emod_nonneg Z (show sec ≠ 0 by omega)
  have h3 := Int.emod_lt_of_pos Z h
  symm
  split
  · rw [show Z + sec - 1 = (Z % sec - 1) + (Z / sec + 1) * sec by rw [Int.add_mul, Int.one_mul, Int.mul_comm (Z / sec) sec]; omega, Int.add_mul_ediv_right _ _ (by omega), Int.ediv_eq_zero_of_lt (by omega) (by omega)]
    omega
  · rw [show Z + sec - 1 = (sec - 1) + (Z / sec) * sec by rw [Int.mul_comm (Z / sec) sec]; omega, Int.add_mul_ediv_right _ _ (by omega), Int.ediv_eq_zero_of_lt (by omega) (by omega)]
    omega
theorem sect_bd {Z sec : Int} (hZ0 : 1 ≤ Z) (hZ1 : Z ≤ 200) (hc0 : 4 ≤ sec) : 1 ≤ (Z + sec - 1) / sec ∧ (Z + sec - 1) / sec ≤ 50 :=
  ⟨(Int.le_ediv_iff_mul_le (by omega)).mpr (by omega), Int.le_of_lt_add_one ((Int.ediv_lt_iff_lt_mul (by omega)).mpr (by omega))⟩
theorem mem_shift {α : Type} {x a : α} {B C D : List α} (h : x ∈ a :: (B ++ (C ++ D))) : x ∈ a :: (D ++ (B ++ C)) := by
  simp only [List.mem_cons, List.mem_append] at h ⊢
  rcases h with h | h | h | h
  · exact .inl h
  · exact .inr (.inr (.inl h))
  · exact .inr (.inr (.inr h))
  · exact .inr (.inl h)
theorem mem_bulk {α : Type} {x : α} {B C D : List α} (h : x ∈ D) : x ∈ B ++ (C ++ D) := List.mem_append.mpr (.inr (List.mem_append.mpr (.inr h)))
theorem mem_more {α : Type} {x : α} {B C D D' : List α} (s : ∀ q ∈ D, q ∈ D') (h : x ∈ B ++ (C ++ D)) : x ∈ B ++ (C ++ D') := by
  simp only [List.mem_append] at h ⊢
  rcases h with h | h | h
  · exact .inl h
  · exact .inr (.inl h)
  · exact .inr (.inr (s _ h))
theorem mem_split2 {α : Type} {x : α} {B C D : List α} (h : x ∈ B ++ (C ++ D)) : x ∈ B ++ C ∨ x ∈ D := by
  simp only [List.mem_append] at h ⊢
  rcases h with h | h | h
  · exact .inl (.inl h)
  · exact .inl (.inr h)
  · exact .inr h
local macro_rules | `(tactic| walk_at "call ref") => `(tactic| (k_here; (with_reducible show wpAny _ _ (call (Value.ref 164) _) _ _ _); k_dflt (refine' ct_use2 (painted_ct ?a1 ?a2 ?a3 ?a4 ?a5 ?a6 ?a7 ?a8) ?B ?F ?X ?N ?T ?k ?R ?d ?u ?_; (case B => k_asm); (case F => k_asm); (case X => k_asm); (case N => k_asm); (case T => k_asm); (case k => first | exact rfl | assumption); (case d => ktr_room); (case u => ktr_units); (case R => exact ⟨_, _, _, _, rfl⟩); (case a1 => omega); (case a2 => omega); (case a3 => omega); (case a4 => omega); (case a5 => omega); (case a6 => omega); (case a7 => omega); (case a8 => omega); intro r9 tl9 h9 tk9 F9 N9 g9 m9 d9 o9; obtain ⟨lf9, es9, n9, hr9, ht9, hc9, hn9⟩ := o9; subst hr9; subst ht9; clear m9 g9; (try simp only [List.cons_append] at N9))))
local macro_rules | `(tactic| walk_at "execs cons") => `(tactic| (k_here; (with_reducible show wpAny _ _ (execs (Stmt.Assign [Expr.Name _ _] (Expr.Call _ [Expr.ListComp _ _ _ _] _ _) _ :: _) _) _ _ _); (refine stop_of ?_)))
set_option maxRecDepth 100000 in
set_option maxHeartbeats 8000000 in
theorem block_g1 {w : World} {p : Program} {loose : List Str} {mean : ExcName → Option Value} {mg mb : Str → Option Value} {dp un : Nat} {gd : Option (List Code)} {cn : Str} {cs : Scope} {a : Addr} {ccd : Value} {cl : List (Str × Addr)} {outer : List Env} {base g : Heap} {L L' : Addr} {s : Shared} {o1 o2 o3 o4 o5 o6 o7 o8 : Obj} {Qf : Flow → Shared → Prop} {Ef : Value → Shared → Prop}
    {W Z P S sec slab : Int} {tW tZ tP tS t1 t2 : Tok} {ts : List Tok} {us : List Value} {vx : Value} {sh d : Addr} {tb : List (Addr × Obj)} (hd' : dp + 20 < recursionLimit) (hu : un + 200 < cLine)
    (B : Below (ktrTop dp un gd cn cs L a ccd cl outer) base (envX cn cs L a ccd cl :: outer) g) (X : (hd.heap_39 w.params).In g) (T : Top p loose mean mg mb g)
    (hW : W < 10) (hZ0 : 1 ≤ Z) (hZ1 : Z ≤ 200) (hS0 : 0 ≤ S) (hS1 : S < 400) (hc0 : 4 ≤ sec) (hc1 : sec ≤ 16) (hl0 : 4 ≤ slab) (hl1 : slab ≤ 32) (hP0 : 1 ≤ P) (hP1 : P ≤ 3) (hPW : P < W)
    (d4 : o4.data = .cell (some (.int P tP))) (d5 : o5.data = .cell (some (.int S tS))) (d6 : o6.data = .cell (some (.ref sh))) (d7 : o7.data = .cell (some (.int Z tZ))) (d8 : o8.data = .cell (some (.int W tW)))
    (F : Fr g L' s.heap (fun z => if z = Str.ofString "x" then some vx else none)) (N : News g L' s.heap ((sh, instObj 146 d) :: (d, shapeDict w.params (.int sec t1) (.int slab t2) ts us) :: cellsOf L' o1 o2 o3 o4 o5 o6 o7 o8 tb))
    (next : ∀ lf es n tM h' tk', es.map PEnt.col = colsTo (sizes ((Z + sec - 1) / sec) W P) S W P (sizes ((Z + sec - 1) / sec) W P).length → (lf :: adsP es).Nodup →
      (∀ q ∈ (sh, instObj 146 d) :: (d, shapeDict w.params (.int sec t1) (.int slab t2) ts us) :: cellsOf L' o1 o2 o3 o4 o5 o6 o7 o8 tb, ∀ p ∈ (lf, listOf (refsP es).toArray n) :: bulkP es, @Ne Nat p.1 q.1) →
      Fr g L' h' (fun z => if z = Str.ofString "due" then some (.ref lf) else if z = Str.ofString "many" then some (.int ((Z + sec - 1) / sec) tM) else if z = Str.ofString "x" then some vx else none) →
      News g L' h' ((lf, listOf (refsP es).toArray n) :: (sh, instObj 146 d) :: (d, shapeDict w.params (.int sec t1) (.int slab t2) ts us) :: cellsOf L' o1 o2 o3 o4 o5 o6 o7 o8 (tb ++ bulkP es)) →
      wpAny (model PySem.Challenge.rw_np0177_01.row.prog w) ((ktrTop dp un gd cn cs L a ccd cl outer).deeper (benv w L')) (execs ((blk w).body.drop 7) (benv w L')) Qf Ef { s with heap := h', toks := tk' }) :
    wpAny (model PySem.Challenge.rw_np0177_01.row.prog w) ((ktrTop dp un gd cn cs L a ccd cl outer).deeper (benv w L')) (execs ((blk w).body.drop 5) (benv w L')) Qf Ef s := by
  have hfill : PySem.Challenge.rw_np0177_01 = PySem.Challenge.rw_np0177_01 ∧ hd.heap_39 = hd.heap_39 := by k_fill; exact ⟨rfl, rfl⟩
  clear hfill
  dsimp only [blk, FnIs.of, List.drop] at next ⊢
  have hme := many_up (Z := Z) (sec := sec) (by omega)
  have hmb := sect_bd hZ0 hZ1 hc0
  rw [← hme] at hmb next
  k_steps
  unfold Stop
  rename News g L' _ _ => N9
  rename Fr g L' _ _ => F9
  exact next _ _ _ _ _ _ (by assumption) (by assumption) (by assumption) F9 (fun p hp => N9 p (mem_shift (B := [_, _, _, _, _, _, _, _, _, _]) hp))
end

/-! ## part Cmp -/
section
open PyProof.Rows.LCg
set_option maxRecDepth 100000
local macro_rules | `(tactic| walk_at "no such place") => `(tactic| skip)
theorem top_off_Cmp : True := by
  w_top off
  trivial
/-- how a turn of a comprehension ends: the ledger has grown by some -/
noncomputable def CTurn (h₀ : Heap) (L : Addr) (m : Str → Option Value) (s : Shared) (I : Addr) (oI : Obj) (C : Addr) (oC : Obj) (D : Addr) (oD : Obj) (news₀ : List (Addr × Obj)) (J : Value → List (Addr × Obj) → Prop) (y : Value) (s₂ : Shared) : Prop :=
  ∃ h' tk' extra', s₂ = { s with heap := h', toks := tk' } ∧ Fr h₀ L h' m ∧ News h₀ L h' ((I, oI) :: (C, oC) :: (D, oD) :: (extra' ++ news₀)) ∧ Off3 I C D extra' ∧ J y extra'
theorem off_app {I C D : Addr} : ∀ {a b : List (Addr × Obj)}, Off3 I C D a → Off3 I C D b → Off3 I C D (a ++ b)
  | [], _, _, h => h
  | _ :: _, _, h, k => ⟨h.1, off_app h.2 k⟩
theorem off_right {I C D : Addr} : ∀ {a b : List (Addr × Obj)}, Off3 I C D (a ++ b) → Off3 I C D b
  | [], _, h => h
  | _ :: _, _, h => off_right h.2
theorem off_left {I C D : Addr} : ∀ {a b : List (Addr × Obj)}, Off3 I C D (a ++ b) → Off3 I C D a
  | [], _, _ => trivial
  | _ :: _, _, h => ⟨h.1, off_left h.2⟩
section
variable {prog : Program} {w : World} {A : Around} {s : Shared} {h₀ : Heap} {L : Addr} {m : Str → Option Value} {env : Env} {elt : Expr} {x : Str} {scope : Scope} {cl : List (Str × Addr)}
/-- a comprehension over a list of any length, by what holds between its turns -/
theorem comp_ind {ax : Addr} {its : Array Value} {news₀ : List (Addr × Obj)} {Fin : List Value → List (Addr × Obj) → Prop} (hsrc : SrcAt h₀ ax its news₀) (J : Nat → List Value → List (Addr × Obj) → Prop) (h0 : J 0 [] [])
    (turn : ∀ i ys extra v I oI C oC D m₂ h tk (E' : Value → Shared → Prop), i < its.size → ys.length = i → J i ys extra → its[i]? = some v → NsObj oC m₂ → m₂ x = some v → Fr h₀ L h m → News h₀ L h ((I, oI) :: (C, oC) :: (D, lst ys) :: (extra ++ news₀)) → Off3 I C D (extra ++ news₀) →
      ((@Ne Nat I C) ∧ (@Ne Nat I D) ∧ (@Ne Nat C D)) →
      wpAny (model prog w) A (eval elt (compEnvC scope cl C env)) (CTurn h₀ L m s I oI C oC D (lst ys) news₀ fun y extra' => J (i + 1) (ys ++ [y]) extra') E' { s with heap := h, toks := tk })
    (fin : ∀ ys extra, J its.size ys extra → Fin ys (extra ++ news₀)) :
    CompRest prog w A h₀ L m env elt x scope cl s (SrcAt h₀ ax its) (fun i v => its[i]? = some v) Fin its.size 0 [] news₀ := by
  have src : ∀ extra, SrcAt h₀ ax its (extra ++ news₀) := fun extra => by
    rcases hsrc with h | ⟨o, hm, r⟩
    · exact .inl h
    · exact .inr ⟨o, List.mem_append.mpr (.inr hm), r⟩
  have key : ∀ (k i : Nat) (ys : List Value) (extra : List (Addr × Obj)), i + k = its.size → ys.length = i → J i ys extra →
      CompRest prog w A h₀ L m env elt x scope cl s (SrcAt h₀ ax its) (fun i v => its[i]? = some v) Fin k i ys (extra ++ news₀) := by
    intro k
    induction k with
    | zero =>
      intro i ys extra hi hy hJ
      have e : i = its.size := by omega
      subst e
      exact CompRest.zero (fin ys extra hJ)
    | succ k ih =>
      intro i ys extra hi hy hJ
      refine CompRest.succ fun v I oI C oC D m₂ h tk E' hv hC hx F N off ne => ?_
      refine wpAny_mono (turn i ys extra v I oI C oC D m₂ h tk E' (by omega) hy hJ hv hC hx F N off ne) (fun y s₂ q => ?_) fun _ _ e => e
      obtain ⟨h', tk', extra', rfl, F', N', off', hJ'⟩ := q
      exact ⟨h', tk', extra' ++ news₀, rfl, F', N', off_app off' (off_right off), src _, ih (i + 1) _ extra' (by omega) (by rw [List.length_append, hy]; rfl) hJ'⟩
  have := key its.size 0 [] [] (by omega) rfl h0
  exact this
/-- over a range -/
theorem comp_rng {n : Nat} {P : Nat → Value → Prop} {news₀ : List (Addr × Obj)} {Fin : List Value → List (Addr × Obj) → Prop} (J : Nat → List Value → Prop) (h0 : J 0 [])
    (turn : ∀ i ys v I oI C oC D m₂ h tk (E' : Value → Shared → Prop), i < n → ys.length = i → J i ys → P i v → NsObj oC m₂ → m₂ x = some v → Fr h₀ L h m → News h₀ L h ((I, oI) :: (C, oC) :: (D, lst ys) :: news₀) → Off3 I C D news₀ →
      ((@Ne Nat I C) ∧ (@Ne Nat I D) ∧ (@Ne Nat C D)) →
      wpAny (model prog w) A (eval elt (compEnvC scope cl C env)) (CTurn h₀ L m s I oI C oC D (lst ys) news₀ fun y extra' => extra' = [] ∧ J (i + 1) (ys ++ [y])) E' { s with heap := h, toks := tk })
    (fin : ∀ ys, J n ys → Fin ys news₀) :
    CompRest prog w A h₀ L m env elt x scope cl s (fun _ => True) P Fin n 0 [] news₀ := by
  have key : ∀ (k i : Nat) (ys : List Value), i + k = n → ys.length = i → J i ys →
      CompRest prog w A h₀ L m env elt x scope cl s (fun _ => True) P Fin k i ys news₀ := by
    intro k
    induction k with
    | zero =>
      intro i ys hi hy hJ
      have e : i = n := by omega
      subst e
      exact CompRest.zero (fin ys hJ)
    | succ k ih =>
      intro i ys hi hy hJ
      refine CompRest.succ fun v I oI C oC D m₂ h tk E' hv hC hx F N off ne => ?_
      refine wpAny_mono (turn i ys v I oI C oC D m₂ h tk E' (by omega) hy hJ hv hC hx F N off ne) (fun y s₂ q => ?_) fun _ _ e => e
      obtain ⟨h', tk', extra', rfl, F', N', off', rfl, hJ'⟩ := q
      exact ⟨h', tk', news₀, rfl, F', N', off, trivial, ih (i + 1) _ (by omega) (by rw [List.length_append, hy]; rfl) hJ'⟩
  exact key n 0 [] (by omega) rfl h0
end
end

/-! ## part Quad -/
section
open PyProof.Rows.LCg
set_option maxRecDepth 100000
local macro_rules | `(tactic| walk_at "no such place") => `(tactic| skip)
local macro_rules | `(tactic| walk_at "no such place") => `(tactic| skip)
local macro_rules | `(tactic| walk_at "no such place") => `(tactic| skip)
theorem top_off_Quad : True := by
  w_top off
  trivial
section
variable {prog : Program} {w : World} {A : Around} {E : Value → Shared → Prop} {s : Shared}
/-- so many items are drawn from a list -/
theorem draw_items {I ax : Addr} {items : Array Value} (hh : A.handled = none) (hne : ax ≠ I) : ∀ (n i : Nat) (s : Shared) (Q : List Value → Shared → Prop), s.heap.IsListIter I ax i → s.heap.IsList ax items → i + n ≤ items.size →
    (∀ h' tk, h'.IsListIter I ax (i + n) → h'.IsList ax items → (∀ b o, b ≠ I → s.heap.get? b = some o → h'.get? b = some o) → Q ((items.toList.drop i).take n) { s with heap := h', toks := tk }) → wpAny (model prog w) A (draw (.ref I) n) Q E s
  | 0, i, s, Q, hit, hl, _, hQ => by
    show wpAny _ _ (pure []) Q E s
    have q := hQ s.heap s.toks hit hl (fun _ _ _ e => e)
    rw [List.take_zero] at q
    exact wpAny_pure q
  | n + 1, i, s, Q, hit, hl, hle, hQ => by
    have hlt : i < items.size := by omega
    have W := Walks.list (prog := prog) (w := w) hh I ax hne items
    show wpAny _ _ (pyNext (.ref I) >>= _) Q E s
    refine wpAny_bind (W.item i s _ _ hlt ⟨hit, hl⟩ fun v h₁ tk₁ hv st₁ hk₁ => ?_)
    refine wpAny_bind (wpAny_holding (draw_items hh hne n (i + 1) _ _ st₁.1 st₁.2 (by omega) fun h₂ tk₂ hit₂ hl₂ hk₂ => wpAny_pure ?_))
    have hv' : items[i] = v := Option.some.inj ((Array.getElem?_eq_getElem hlt).symm.trans hv)
    have hd : items.toList.drop i = v :: items.toList.drop (i + 1) := by rw [← hv']; simp [List.drop_eq_getElem_cons, hlt]
    have q := hQ h₂ tk₂ (by rw [show i + (n + 1) = i + 1 + n by omega]; exact hit₂) hl₂ fun b o hb e => hk₂ b o hb (hk₁ b o (by simpa using hb) e)
    rw [hd, List.take_succ_cons] at q
    exact q
/-- a list unpacked to as many targets -/
theorem assign_list {env : Env} {elts : List Expr} {k} {pos : Pos} {a : Addr} {items : Array Value} {Q : Unit → Shared → Prop} (hh : A.handled = none) (hl : s.heap.IsList a items)
    (hn : (assignEach elts env).length = items.size) (hstar : (assignEach elts env).findIdx? (·.1) = none)
    (h : ∀ h' tk, (∀ b o, s.heap.get? b = some o → h'.get? b = some o) → wpAny (model prog w) A (assignInOrder ((assignEach elts env).map (·.2)) items.toList) Q E { s with heap := h', toks := tk }) :
    wpAny (model prog w) A (assign (.Tuple elts k pos) env (.ref a)) Q E s := by
  have hlt : a < s.heap.objs.size := by obtain ⟨o, ho, _⟩ := hl; exact Heap.lt_size ho
  have hne : a ≠ s.heap.objs.size := Nat.ne_of_lt hlt
  have up : ∀ b o, s.heap.get? b = some o → (s.heap.push { cls := .type "list_iterator", data := .fields #[.ref a, .int 0 0] }).get? b = some o := fun b o e => Heap.get?_push_of_some _ e
  have W := Walks.list (prog := prog) (w := w) hh s.heap.objs.size a hne items
  rw [assign_Tuple]
  refine wpAny_bind (wpAny_standAt ?_)
  unfold unpack
  rw [hn, hstar]
  refine wpAny_bind (wpAny_holding ?_)
  unfold unpackItems
  refine wpAny_bind ?_
  unfold notIterableAtAll
  refine wpAny_bind (wpAny_specialOf hl.typeIs slot_list_iter.lookup ?_)
  refine wpAny_pure ?_
  simp only [Bool.false_eq_true, if_false]
  refine wpAny_bind (wpAny_holding (wpAny_pyIter_list hl ?_))
  refine wpAny_bind (wpAny_holding (draw_items hh hne items.size 0 _ _ ⟨_, Heap.get?_push_size _ rfl, rfl, rfl⟩ (hl.push _) (by omega) fun h₁ tk₁ hit₁ hl₁ hk₁ => ?_))
  have hall : List.take items.size (List.drop 0 items.toList) = items.toList := by
    rw [List.drop_zero]; exact List.take_of_length_le (by simp)
  rw [hall]
  rw [if_neg (by simp)]
  rw [Nat.zero_add] at hit₁
  refine wpAny_bind (wpAny_holding (W.done _ _ _ ⟨hit₁, hl₁⟩ fun h₂ tk₂ hk₂ => ?_))
  simp only [Option.isSome_none, Bool.false_eq_true, if_false]
  refine wpAny_pure (h h₂ tk₂ fun b o e => ?_)
  have hb : b ≠ s.heap.objs.size := Nat.ne_of_lt (Heap.lt_size e)
  exact hk₂ b o (by simpa using hb) (hk₁ b o hb (up b o e))
end
open PyProof.Rows.LCp in
section
variable {prog : Program} {w : World} {A : Around} {E : Value → Shared → Prop} {h₀ : Heap} {L : Addr} {m : Str → Option Value} {env : Env}
variable {elt iter : Expr} {x1 x2 x3 x4 : Str} {p1 p2 p3 p4 tp pos : Pos} {kk : Nat} {scope : Scope} {cl : List (Str × Addr)} {news : List (Addr × Obj)} {its : Array Value} {J : Nat → List Value → Prop} {R : Nat → PEnt → Prop}
noncomputable abbrev quad (elt iter : Expr) (x1 x2 x3 x4 : Str) (p1 p2 p3 p4 tp : Pos) (kk : Nat) (scope : Scope) (pos : Pos) : Expr := .ListComp elt [⟨.Tuple [.Name x1 p1, .Name x2 p2, .Name x3 p3, .Name x4 p4] kk tp, iter, [], 0⟩] scope pos
/-- a turn of a comprehension over lists of four ints -/
noncomputable def QuadTurn (prog : Program) (w : World) (A : Around) (h₀ : Heap) (L : Addr) (m : Str → Option Value) (env : Env) (elt : Expr) (x1 x2 x3 x4 : Str) (scope : Scope) (cl : List (Str × Addr)) (s : Shared) (news : List (Addr × Obj)) (its : Array Value) (J : Nat → List Value → Prop) (R : Nat → PEnt → Prop) : Prop :=
  ∀ i ys (e : PEnt) I oI C oC D m₂ h tk (E' : Value → Shared → Prop), i < its.size → R i e → ys.length = i → J i ys → NsObj oC m₂ → m₂ x1 = some (.int e.c e.u1) → m₂ x2 = some (.int e.r e.u2) → m₂ x3 = some (.int e.m e.u3) → m₂ x4 = some (.int e.f e.u4) →
    e.obj ∈ news → Fr h₀ L h m → News h₀ L h ((I, oI) :: (C, oC) :: (D, lst ys) :: news) → Off3 I C D news → ((@Ne Nat I C) ∧ (@Ne Nat I D) ∧ (@Ne Nat C D)) →
    wpAny (model prog w) A (eval elt (compEnvC scope cl C env)) (CTurn h₀ L m s I oI C oC D (lst ys) news fun y extra' => extra' = [] ∧ J (i + 1) (ys ++ [y])) E' { s with heap := h, toks := tk }
theorem quad_block {s₂ : Shared} {I ax : Addr} {RR : Value → Addr → Result → Shared → Prop} (hh : A.handled = none) (hsz : its.size ≤ 1000) (hcell : ∀ y ∈ scope.names, y.2 ≠ .cell) (hkind : scope.kind = .function)
    (hx1 : scope.names.lookup x1 = some .local) (hx2 : scope.names.lookup x2 = some .local) (hx3 : scope.names.lookup x3 = some .local) (hx4 : scope.names.lookup x4 = some .local) (hd12 : x1 ≠ x2) (hd13 : x1 ≠ x3) (hd14 : x1 ≠ x4) (hd23 : x2 ≠ x3) (hd24 : x2 ≠ x4) (hd34 : x3 ≠ x4)
    (hq : ∀ (i : Nat) v, its[i]? = some v → ∃ e : PEnt, v = .ref e.a ∧ e.obj ∈ news ∧ R i e) (hit : s₂.heap.IsListIter I ax 0) (hla : ∃ o n, (ax, o) ∈ news ∧ o.cls = .type "list" ∧ o.data = .seq its n)
    (F : Fr h₀ L s₂.heap m) (N : News h₀ L s₂.heap news) (hIL : L ≠ I) (hI₀ : h₀.get? I = none) (off : ∀ p ∈ news, p.1 ≠ I) (h0 : J 0 [])
    (turn : QuadTurn prog w A h₀ L m env elt x1 x2 x3 x4 scope cl s₂ news its J R)
    (hRR : ∀ D C h tk m' ys, J its.size ys → Fr h₀ L h m → News h₀ L h ((D, lst ys) :: news) → h.Ns C m' → h₀.get? C = none → h₀.get? D = none → C ≠ L → D ≠ L → C ≠ D → (∀ p ∈ news, p.1 ≠ C) → Off1 D news → RR (.ref D) C (.ok .next) { s₂ with heap := h, toks := tk }) :
    wpAny (model prog w) A (newList []) (fun acc s₃ => wpAny (model prog w) A (newFunctionEnv scope env.globals cl [] env.qual none .none (some env)) (fun cenv s₄ =>
      codeAny (model prog w) A (.compStart (quad elt iter x1 x2 x3 x4 p1 p2 p3 p4 tp kk scope pos) 0 (.ref I) acc { cenv with scope := relabel scope env }) (RR acc cenv.locals) s₄) E s₃) E s₂ := by
  refine wpAny_newObj_type (wpAny_newFunctionEnv hcell (by intro y hy; simp at hy) (fun h₁ hns₁ hsb₁ => ?_) hkind)
  dsimp only at hns₁ hsb₁ ⊢
  generalize hH2 : s₂.heap.push { cls := .type "list", dict := none, data := .seq ([] : List Value).toArray } = H2 at hns₁ hsb₁ ⊢
  have hC : H2.objs.size = s₂.heap.objs.size + 1 := by rw [← hH2, Heap.size_push]
  have low : ∀ b, b < s₂.heap.objs.size → b ≠ H2.objs.size ∧ b ≠ s₂.heap.objs.size := fun b hb => ⟨by rw [hC]; exact Nat.ne_of_lt (Nat.lt_succ_of_lt hb), Nat.ne_of_lt hb⟩
  have hDC : s₂.heap.objs.size ≠ H2.objs.size := by rw [hC]; exact Nat.ne_of_lt (Nat.lt_succ_self _)
  have hIlt : I < s₂.heap.objs.size := by obtain ⟨o, ho, _⟩ := hit; exact Heap.lt_size ho
  have hCI : I ≠ H2.objs.size := (low I hIlt).1
  have hDI : I ≠ s₂.heap.objs.size := (low I hIlt).2
  have old : ∀ b o, s₂.heap.get? b = some o → h₁.get? b = some o := fun b o e => hsb₁.extBut b o (low b (Heap.lt_size e)).1 (Heap.get?_push_of_some _ (hH2 ▸ Heap.get?_push_of_some _ e))
  have hacc : h₁.get? s₂.heap.objs.size = some (lst []) := hsb₁.extBut _ _ hDC (Heap.get?_push_of_some _ (hH2 ▸ Heap.get?_push_size _ rfl))
  have none₀ : ∀ a, s₂.heap.objs.size ≤ a → h₀.get? a = none := fun a ha => by
    cases e : h₀.get? a with
    | none => rfl
    | some o' => exact absurd (Heap.lt_size (F.keep a o' e)) (Nat.not_lt.mpr ha)
  have hD₀ : h₀.get? s₂.heap.objs.size = none := none₀ _ (Nat.le_refl _)
  have hC₀ : h₀.get? H2.objs.size = none := none₀ _ (by rw [hC]; exact Nat.le_succ _)
  have hDL : s₂.heap.objs.size ≠ L := Ne.symm (low L F.ns.lt).2
  have hCL : H2.objs.size ≠ L := Ne.symm (low L F.ns.lt).1
  have off₀ : Off3 I H2.objs.size s₂.heap.objs.size news := Off3.of fun p hp => ⟨off p hp, (low _ (Heap.lt_size (N p hp).1)).1, (low _ (Heap.lt_size (N p hp).1)).2⟩
  have off3 := off₀.mem
  obtain ⟨oax, nax, hax, haxc, haxd⟩ := hla
  have haxI : ax ≠ I := off _ hax
  have W := Walks.list (prog := prog) (w := w) hh I ax haxI its
  have loop : ∀ s₃ : Shared, s₃ = { s₂ with heap := h₁, toks := s₂.toks + ([] : List (Str × Value)).length } →
      codeAny (model prog w) A (.compLoop (quad elt iter x1 x2 x3 x4 p1 p2 p3 p4 tp kk scope pos) 0 (.ref I) (.ref s₂.heap.objs.size) (compEnvC scope cl H2.objs.size env)) (RR (.ref s₂.heap.objs.size) H2.objs.size) s₃ := by
    rintro s₃ rfl
    refine codeAny_compLoop_pair
      (fun k s' => ∃ h' tk i ys m', s' = { s₂ with heap := h', toks := tk } ∧ i ≤ its.size ∧ k = its.size + 1 - i ∧ ys.length = i ∧ h'.IsListIter I ax i ∧ Fr h₀ L h' m ∧ h'.Ns H2.objs.size m' ∧ News h₀ L h' ((s₂.heap.objs.size, lst ys) :: news) ∧ J i ys) ?_ (its.size + 1)
      ⟨h₁, _, 0, [], _, rfl, Nat.zero_le _, rfl, rfl, hit.at fun o e => old _ o e, F.keeps old, hns₁, fun p hp => ?_, h0⟩
    · rintro k s' ⟨h', tk, i, ys, m', rfl, hi, rfl, hyl, hit', F', hn', N', hJ⟩
      have hl' : h'.IsList ax its := ⟨oax, (N' _ (.tail _ hax)).1, haxc, nax, haxd⟩
      by_cases hlt : i < its.size
      · refine W.item i _ _ _ hlt ⟨hit', hl'⟩ fun v h₂ tk₂ hv st₂ hk₂ => ?_
        obtain ⟨e, rfl, he, hR⟩ := hq i v hv
        have N₂ : News h₀ L h₂ ((s₂.heap.objs.size, lst ys) :: news) := news_but N' hk₂ fun p hp => by
          rcases List.mem_cons.mp hp with rfl | hp
          · exact Ne.symm hDI
          · exact (off3 p hp).1
        have he₂ : h₂.IsList e.a #[.int e.c e.u1, .int e.r e.u2, .int e.m e.u3, .int e.f e.u4] := ⟨_, (N₂ _ (.tail _ he)).1, rfl, e.n, rfl⟩
        refine wpAny_letOwnedTupleGo_listiter st₂.1 ?_
        refine assign_list hh he₂ rfl rfl fun h₃ tk₃ k₃ => ?_
        have n₃ : h₃.Ns H2.objs.size m' := (hn'.at' fun o e => hk₂ _ o (by simpa using Ne.symm hCI) e).at' fun o e => k₃ _ o e
        refine assignInOrder_cons (wpAny_assign_Name (wpAny_storeName_local (lookup_relabel_local hx1) n₃ (fun h₄ n₄ b₄ => ?_) (by simp [compEnvC, relabel, hkind])))
        refine assignInOrder_cons (wpAny_assign_Name (wpAny_storeName_local (lookup_relabel_local hx2) n₄ (fun h₅ n₅ b₅ => ?_) (by simp [compEnvC, relabel, hkind])))
        refine assignInOrder_cons (wpAny_assign_Name (wpAny_storeName_local (lookup_relabel_local hx3) n₅ (fun h₆ n₆ b₆ => ?_) (by simp [compEnvC, relabel, hkind])))
        refine assignInOrder_cons (wpAny_assign_Name (wpAny_storeName_local (lookup_relabel_local hx4) n₆ (fun h₇ n₇ b₇ => ?_) (by simp [compEnvC, relabel, hkind])))
        refine assignInOrder_nil ?_
        have up : ∀ b o, b ≠ H2.objs.size → h₂.get? b = some o → h₇.get? b = some o := fun b o hb e => b₇.extBut b o hb (b₆.extBut b o hb (b₅.extBut b o hb (b₄.extBut b o hb (k₃ b o e))))
        have F₇ : Fr h₀ L h₇ m := ((((((fr_but F' hk₂ hIL hI₀).keeps k₃).change b₄ hCL hC₀).change b₅ hCL hC₀).change b₆ hCL hC₀).change b₇ hCL hC₀)
        obtain ⟨oI, hoI, hIr⟩ := st₂.1
        have hI7 : h₇.get? I = some oI := up _ _ hCI hoI
        obtain ⟨oC, heC, hoC⟩ := ns_obj n₇
        have N₇ : News h₀ L h₇ ((I, oI) :: (H2.objs.size, oC) :: (s₂.heap.objs.size, lst ys) :: news) := fun p hp => by
          rcases List.mem_cons.mp hp with rfl | hp
          · exact ⟨hI7, Ne.symm hIL, hI₀⟩
          rcases List.mem_cons.mp hp with rfl | hp
          · exact ⟨heC, hCL, hC₀⟩
          have z := N₂ p hp
          refine ⟨up _ _ ?_ z.1, z.2⟩
          rcases List.mem_cons.mp hp with rfl | hp
          · exact hDC
          · exact (off3 p hp).2.1
        refine wpAny_mono (turn i ys e I oI H2.objs.size oC s₂.heap.objs.size _ h₇ _ _ hlt hR hyl hJ hoC (by simp [hd12, hd13, hd14]) (by simp [hd23, hd24]) (by simp [hd34]) (by simp) he F₇ N₇ off₀ ⟨hCI, hDI, Ne.symm hDC⟩) (fun y s₄ h₄ => ?_) fun _ _ e => e
        obtain ⟨h₈, tk₈, _, rfl, F₈, N₈, _, rfl, J₈⟩ := h₄
        have zI := (N₈ (I, oI) List.mem_cons_self).1
        have zC := (N₈ (H2.objs.size, oC) (List.mem_cons_of_mem _ List.mem_cons_self)).1
        have zD := (N₈ (s₂.heap.objs.size, lst ys) (List.mem_cons_of_mem _ (List.mem_cons_of_mem _ List.mem_cons_self))).1
        refine append_at (hsz := by show ys.toArray.size ≤ sizeLine; rw [List.size_toArray, hyl, sizeLine_eq]; omega) zD fun h₉ b₉ hD₉ => ?_
        refine ⟨its.size + 1 - (i + 1), by omega, h₉, tk₈, i + 1, ys ++ [y], _, rfl, hlt, rfl, by rw [List.length_append, List.length_singleton, hyl], ⟨oI, b₉.extBut _ _ hDI zI, hIr⟩, F₈.change b₉ hDL hD₀,
          (hoC.ns zC).sameBut b₉ (Ne.symm hDC), fun p hp => ?_, J₈⟩
        rcases List.mem_cons.mp hp with rfl | hp
        · exact ⟨hD₉.trans (congrArg some (lst_snoc ys y)), hDL, hD₀⟩
        · have z := N₈ p (.tail _ (.tail _ (.tail _ hp)))
          exact ⟨b₉.extBut _ _ (off3 p hp).2.2 z.1, z.2⟩
      · obtain rfl : i = its.size := Nat.le_antisymm hi (Nat.not_lt.mp hlt)
        refine W.done _ _ _ ⟨hit', hl'⟩ fun h₂ tk₂ hk₂ => ?_
        exact hRR _ _ h₂ tk₂ _ ys hJ (fr_but F' hk₂ hIL hI₀) (news_but N' hk₂ fun p hp => by
          rcases List.mem_cons.mp hp with rfl | hp
          · exact Ne.symm hDI
          · exact (off3 p hp).1) (hn'.at' fun o e => hk₂ _ o (by simpa using Ne.symm hCI) e) hC₀ hD₀ hCL hDL (Ne.symm hDC) (fun p hp => (off3 p hp).2.1) off₀.one
    · rcases List.mem_cons.mp hp with rfl | hp
      · exact ⟨hacc, hDL, hD₀⟩
      · exact ⟨old _ _ (N p hp).1, (N p hp).2⟩
  exact codeAny_compStart_list (loop _ rfl) (W.self 0 _ _ _ ⟨hit.at fun o e => old _ o e, ⟨oax, old _ _ (N _ hax).1, haxc, nax, haxd⟩⟩ (loop _ rfl))
/-- what the source of the quadruples is, and what the turns do -/
noncomputable def QuadSrc (prog : Program) (w : World) (A : Around) (h₀ : Heap) (L : Addr) (m : Str → Option Value) (env : Env) (elt : Expr) (x1 x2 x3 x4 y : Str) (scope : Scope) (cl : List (Str × Addr)) (Q : Flow → Shared → Prop) (xv : Value) (s₁ : Shared) : Prop :=
  ∃ ax its news J R, xv = .ref ax ∧ A.handled = none ∧ Fr h₀ L s₁.heap m ∧ News h₀ L s₁.heap news ∧ its.size ≤ 1000 ∧ (∃ o n, (ax, o) ∈ news ∧ o.cls = .type "list" ∧ o.data = .seq its n) ∧ (∀ (i : Nat) v, its[i]? = some v → ∃ e : PEnt, v = .ref e.a ∧ e.obj ∈ news ∧ R i e) ∧ J 0 [] ∧
    (∀ g, QuadTurn prog w A h₀ L m env elt x1 x2 x3 x4 scope cl { s₁ with heap := g } news its J R) ∧
    (∀ ys D h tk, J its.size ys → Fr h₀ L h (fun z => if z = y then some (.ref D) else m z) → News h₀ L h ((D, lst ys) :: news) → Q .next { s₁ with heap := h, toks := tk })
theorem quad_assign {s : Shared} {y : Str} {py spos : Pos} {Q : Flow → Shared → Prop} (hLe : env.locals = L) (hsw : swapsWith (quad elt iter x1 x2 x3 x4 p1 p2 p3 p4 tp kk scope pos) (some (.Name y py)) spos.line env = pure true)
    (hclos : closureFor scope env = pure cl) (hcell : ∀ z ∈ scope.names, z.2 ≠ .cell) (hkind : scope.kind = .function) (hnames : ∀ z ∈ scope.names, z.2 = .local → scope.names.lookup z.1 = some .local)
    (hx1 : scope.names.lookup x1 = some .local) (hx2 : scope.names.lookup x2 = some .local) (hx3 : scope.names.lookup x3 = some .local) (hx4 : scope.names.lookup x4 = some .local) (hd12 : x1 ≠ x2) (hd13 : x1 ≠ x3) (hd14 : x1 ≠ x4) (hd23 : x2 ≠ x3) (hd24 : x2 ≠ x4) (hd34 : x3 ≠ x4)
    (hy : env.kindOf y = some .local) (hp : (env.scope.kind == .class || (env.scope.kind == .module && env.locals != env.globals)) = false)
    (h : wpAny (model prog w) A (eval iter env) (QuadSrc prog w A h₀ L m env elt x1 x2 x3 x4 y scope cl Q) E s)
    (hs : ∀ x, foldedSetIterable iter env x = pure x := by intro _; rfl) :
    wpAny (model prog w) A (exec (.Assign [.Name y py] (quad elt iter x1 x2 x3 x4 p1 p2 p3 p4 tp kk scope pos) spos) env) Q E s := by
  subst hLe
  rw [exec_Assign_Name_used _ _ _ _ hsw]
  refine wpAny_bind (wpAny_standAt (wpAny_bind ?_))
  show wpAny _ A (do let _ ← comprehension (quad elt iter x1 x2 x3 x4 p1 p2 p3 p4 tp kk scope pos) scope env _ (newList []) false (eval iter env) (some (assign (.Name y py) env))) _ _ s
  refine wpAny_bind (wpAny_mono (wpAny_comprehension_free (use := some (assign (.Name y py) env)) (Q := fun _ s' => Q .next s') rfl hs hclos hkind hnames
    (wpAny_mono h (fun xv s₁ h₁ => ?_) fun _ _ e => e)) (fun _ s' hq => wpAny_pure (wpAny_pure hq)) fun _ _ e => e)
  obtain ⟨ax, its, news, J, R, rfl, hh, F, N, hsz, hla, hq, hJ, turn, fin⟩ := h₁
  obtain ⟨oax, nax, hax, haxc, haxd⟩ := id hla
  have hl : s₁.heap.IsList ax its := ⟨oax, (N _ hax).1, haxc, nax, haxd⟩
  refine wpAny_pyIter_list hl ?_
  have up : ∀ b o, s₁.heap.get? b = some o → (s₁.heap.push { cls := .type "list_iterator", data := .fields #[.ref ax, .int 0 0] }).get? b = some o := fun b o e => Heap.get?_push_of_some _ e
  refine quad_block hh hsz hcell hkind hx1 hx2 hx3 hx4 hd12 hd13 hd14 hd23 hd24 hd34 hq ⟨_, Heap.get?_push_size _ rfl, rfl, rfl⟩ hla (F.keeps up) (N.grown up) (Nat.ne_of_lt F.ns.lt) (next_is_new F) (fun p hp => Nat.ne_of_lt (Heap.lt_size (N p hp).1)) hJ (turn _) ?_
  intro D C h' tk m' ys hJn F' N' hn hC₀ hD₀ hCL hDL hCD offC o1
  show wpAny _ A (assign (.Name y py) env (.ref D)) _ _ _
  refine wpAny_assign_Name (wpAny_storeName_local hy F'.ns (fun h₂ hn₂ hs₂ => ?_) hp)
  have hL₀ : h₀.get? env.locals = none := Heap.get?_none_of_le F'.above
  have F₂ : Fr h₀ env.locals h₂ (fun z => if z = y then some (.ref D) else m z) := ⟨hn₂, fun b o e => hs₂.extBut b o (fun q => by rw [q, hL₀] at e; cases e) (F'.keep b o e), F'.above⟩
  refine ⟨m', hn.sameBut hs₂ hCL, fun h'' hs'' => fin ys D h'' _ hJn (F₂.change hs'' hCL hC₀) (fun p hp => ?_)⟩
  have z : h₂.get? p.1 = some p.2 := hs₂.extBut _ _ (N' p hp).2.1 (N' p hp).1
  refine ⟨hs''.extBut _ _ ?_ z, (N' p hp).2⟩
  rcases List.mem_cons.mp hp with rfl | hp
  · exact Ne.symm hCD
  · exact offC p hp
end
end

/-! ## part T17 -/
section
local macro_rules | `(tactic| walk_at "no such place") => `(tactic| skip)
local macro_rules | `(tactic| walk_at "no such place") => `(tactic| skip)
local macro_rules | `(tactic| walk_at "no such place") => `(tactic| skip)
local macro_rules | `(tactic| walk_at "no such place") => `(tactic| skip)
theorem top_off_T17 : True := by
  w_top off
  trivial
theorem ints_snoc {ys : List Value} {ns : List Int} {k : Int} {t : Tok} (h : IntsAre ys ns) : IntsAre (ys ++ [.int k t]) (ns ++ [k]) := by
  induction h with
  | nil => exact .cons _ _ .nil
  | cons k t r ih => exact .cons _ _ ih
theorem refsP_get {es : List PEnt} {i : Nat} {v : Value} (h : (refsP es).toArray[i]? = some v) : ∃ e, es[i]? = some e ∧ v = .ref e.a := by
  have h' : (refsP es)[i]? = some v := by simpa using h
  unfold refsP at h'
  rw [List.getElem?_map] at h'
  cases q : es[i]? with
  | none => rw [q] at h'; cases h'
  | some e => rw [q] at h'; exact ⟨e, rfl, (Option.some.inj h').symm⟩
theorem bulkP_get {es : List PEnt} {i : Nat} {e : PEnt} (h : es[i]? = some e) : e.obj ∈ bulkP es := List.mem_map_of_mem (List.mem_of_getElem? h)
theorem many_take {es : List PEnt} {i : Nat} {e : PEnt} (h : es[i]? = some e) : (manyOf (es.map PEnt.col)).take (i + 1) = (manyOf (es.map PEnt.col)).take i ++ [e.m] := by
  rw [List.take_add_one]
  congr 1
  unfold manyOf
  rw [List.getElem?_map, List.getElem?_map, h]; rfl
local macro_rules | `(tactic| walk_at "CompSrc") => `(tactic| (k_here; (refine stop_of ?_)))
local macro_rules | `(tactic| walk_at "execs cons") => `(tactic| (k_here; (with_reducible show wpAny _ _ (execs (Stmt.If _ _ _ _ :: _) _) _ _ _); (refine stop_of ?_)))
set_option maxRecDepth 100000 in
set_option maxHeartbeats 8000000 in
theorem block_g2 {w : World} {p : Program} {loose : List Str} {mean : ExcName → Option Value} {mg mb : Str → Option Value} {dp un : Nat} {gd : Option (List Code)} {cn : Str} {cs : Scope} {a : Addr} {ccd : Value} {cl : List (Str × Addr)} {outer : List Env} {base g : Heap} {L L' : Addr} {s : Shared} {o1 o2 o3 o4 o5 o6 o7 o8 : Obj} {Qf : Flow → Shared → Prop} {Ef : Value → Shared → Prop}
    {W Z P S sec slab : Int} {tW tZ tP tS t1 t2 : Tok} {ts : List Tok} {us : List Value} {vx : Value} {M : Int} {tM : Tok} {lf : Addr} {es : List PEnt} {n : Nat} {sh d : Addr} {tb : List (Addr × Obj)} (hd' : dp + 20 < recursionLimit) (hu : un + 200 < cLine)
    (B : Below (ktrTop dp un gd cn cs L a ccd cl outer) base (envX cn cs L a ccd cl :: outer) g) (X : (hd.heap_39 w.params).In g) (T : Top p loose mean mg mb g)
    (hW : W < 10) (hZ0 : 1 ≤ Z) (hZ1 : Z ≤ 200) (hS0 : 0 ≤ S) (hS1 : S < 400) (hc0 : 4 ≤ sec) (hc1 : sec ≤ 16) (hl0 : 4 ≤ slab) (hl1 : slab ≤ 32) (hP0 : 1 ≤ P) (hP1 : P ≤ 3) (hPW : P < W)
    (d4 : o4.data = .cell (some (.int P tP))) (d5 : o5.data = .cell (some (.int S tS))) (d6 : o6.data = .cell (some (.ref sh))) (d7 : o7.data = .cell (some (.int Z tZ))) (d8 : o8.data = .cell (some (.int W tW)))
    (hlen : es.length ≤ 20) (F : Fr g L' s.heap (fun z => if z = Str.ofString "due" then some (.ref lf) else if z = Str.ofString "many" then some (.int M tM) else if z = Str.ofString "x" then some vx else none)) (N : News g L' s.heap ((lf, listOf (refsP es).toArray n) :: (sh, instObj 146 d) :: (d, shapeDict w.params (.int sec t1) (.int slab t2) ts us) :: cellsOf L' o1 o2 o3 o4 o5 o6 o7 o8 (tb ++ bulkP es)))
    (next : ∀ tT h' tk', Fr g L' h' (fun z => if z = Str.ofString "together" then some (.int (manyOf (es.map PEnt.col)).sum tT) else if z = Str.ofString "due" then some (.ref lf) else if z = Str.ofString "many" then some (.int M tM) else if z = Str.ofString "x" then some vx else none) → News g L' h' ((lf, listOf (refsP es).toArray n) :: (sh, instObj 146 d) :: (d, shapeDict w.params (.int sec t1) (.int slab t2) ts us) :: cellsOf L' o1 o2 o3 o4 o5 o6 o7 o8 (tb ++ bulkP es)) →
      wpAny (model PySem.Challenge.rw_np0177_01.row.prog w) ((ktrTop dp un gd cn cs L a ccd cl outer).deeper (benv w L')) (execs ((blk w).body.drop 8) (benv w L')) Qf Ef { s with heap := h', toks := tk' }) :
    wpAny (model PySem.Challenge.rw_np0177_01.row.prog w) ((ktrTop dp un gd cn cs L a ccd cl outer).deeper (benv w L')) (execs ((blk w).body.drop 7) (benv w L')) Qf Ef s := by
  have hfill : PySem.Challenge.rw_np0177_01 = PySem.Challenge.rw_np0177_01 ∧ hd.heap_39 = hd.heap_39 := by k_fill; exact ⟨rfl, rfl⟩
  clear hfill
  dsimp only [blk, FnIs.of, List.drop] at next ⊢
  k_steps
  unfold Stop
  rename News g L' _ _ => N9
  rename Fr g L' _ _ => F9
  refine LCg.CompSrc.ledger (by rfl) F9 N9 (.head _) (by rw [List.size_toArray, refsP_len, PySem.sizeLine_eq]; omega) ?_
  intro g9
  refine comp_ind (.inr ⟨_, .head _, rfl, _, rfl⟩) (fun i ys extra => extra = [] ∧ IntsAre ys ((manyOf (es.map PEnt.col)).take i)) ⟨rfl, .nil⟩ ?turn ?fin
  case turn =>
    clear N9 F9
    intro i ys extra v I oI C oC D m₂ h tk E' hi hy hJ hv hC hx F9 N9 off ne
    obtain ⟨rfl, hI⟩ := hJ
    obtain ⟨e, he, rfl⟩ := refsP_get hv
    have N8 : News g L' h ((e.a, pList (.int e.c e.u1) (.int e.r e.u2) (.int e.m e.u3) (.int e.f e.u4) e.n) :: (I, oI) :: (C, oC) :: (D, LCg.lst ys) :: ((lf, listOf (refsP es).toArray n) :: (sh, instObj 146 d) :: (d, shapeDict w.params (.int sec t1) (.int slab t2) ts us) :: cellsOf L' o1 o2 o3 o4 o5 o6 o7 o8 (tb ++ bulkP es))) := fun p hp => by
      rcases List.mem_cons.mp hp with rfl | hp
      · exact N9 _ (.tail _ (.tail _ (.tail _ (mem_bulk (B := [_, _, _, _, _, _, _, _, _, _, _]) (bulkP_get he)))))
      · exact N9 p hp
    clear N9
    k_steps
    refine ⟨h, _, [], rfl, F9, fun p hp => N8 p (.tail _ hp), trivial, rfl, ?_⟩
    rw [many_take he]
    exact ints_snoc hI
  case fin =>
    rintro ys extra ⟨rfl, hI⟩
    rw [List.size_toArray, refsP_len, List.take_of_length_le (by rw [manyOf_len, List.length_map]; exact Nat.le_refl _)] at hI
    clear N9 F9
    k_steps
    unfold Stop
    rename News g L' _ _ => N9
    rename Fr g L' _ _ => F9
    exact next _ _ _ F9 (fun p hp => N9 p (.tail _ hp))
end

/-! ## part Sto -/
section
set_option maxRecDepth 100000
theorem top_off_Sto : True := by
  w_top off
  trivial
section
variable {prog : Program} {w : World} {A : Around} {E : Value → Shared → Prop} {s : Shared}
theorem sto_slice {a sl D : Addr} {xs ys : Array Value} {n : Nat} {t : Tok} {Q : Unit → Shared → Prop} (ho : s.heap.get? a = some (listOf xs n)) (hs : s.heap.IsSliceOf sl .none (.int 2 t) .none) (hD : s.heap.IsList D ys) (hne : a ≠ D)
    (h2 : 2 ≤ xs.size) (h3 : xs.size ≤ 1000) (h4 : ys.size ≤ 1000)
    (h : Q () { s with heap := s.heap.update a (Obj.mapSeq fun xs => xs.extract 0 0 ++ ys ++ xs.extract 2 xs.size) }) :
    wpAny (model prog w) A (setItem (.ref a) (.ref sl) (.ref D)) Q E s := by
  have hl : s.heap.IsList a xs := PySem.IsL.isList (n := n) ho
  obtain ⟨os, hos, hcs, hds⟩ := id hs
  obtain ⟨oD, hoD, hcD, nD, hdD⟩ := id hD
  have hTs : s.TypeIs (.ref sl) "slice" := ⟨os, hos, hcs⟩
  unfold setItem
  try with_reducible refine wpAny_holding ?_
  first | refine wpAny_bind (wpAny_pure ?_) | skip
  refine wpAny_bind (wpAny_sequenceKey hl.typeIs (by decide) ?_)
  refine wpAny_bind (wpAny_callSpecial?_slot (name := Str.ofString "__setitem__") hl.typeIs slot_list_setitem
    (wpAny_call_entry slot_list_setitem hl.typeIs entry_list_setitem ?_ (args_list_setitem _ _ _)))
  show wpAny _ _ (Builtin.List.listSubscript? (.ref sl) >>= _) _ _ s
  refine wpAny_bind ?_
  unfold Builtin.List.listSubscript?
  refine wpAny_bind (wpAny_specialOf hTs slice_no_index ?_)
  simp only [Option.isNone_none, if_true]
  refine wpAny_pure ?_
  show wpAny _ _ (typeOf (.ref sl) >>= _) _ _ s
  refine wpAny_bind (wpAny_typeOf hTs ?_)
  rw [if_neg (by decide)]
  rw [listSliceParts_eq]
  refine wpAny_bind (wpAny_bind (wpAny_field hos hds (x := .none) rfl (wpAny_bind (wpAny_listPart .none ?_))))
  rw [if_neg (by decide)]
  refine wpAny_bind (wpAny_field hos hds (x := .none) rfl (wpAny_bind (wpAny_listPart .none ?_)))
  refine wpAny_bind (wpAny_field hos hds (x := .int 2 t) rfl (wpAny_bind (wpAny_listPart (.int _ _) (wpAny_pure ?_))))
  refine bm_if_false (show (a == D) = false from beq_eq_false_iff_ne.mpr hne) ?_
  have hb : sliceBounds none (some 2) none xs.size = (0, 2, 1) := by
    unfold sliceBounds
    simp only [Option.getD_none, show (1 : Int) > 0 by decide, if_true]
    refine Prod.ext rfl (Prod.ext ?_ rfl)
    show max 0 (min (if (2 : Int) < 0 then 2 + (xs.size : Int) else 2) (xs.size : Int)) = 2
    rw [if_neg (by decide)]
    omega
  have all : ∀ {Q : Array Value → Shared → Prop} {E : Value → Shared → Prop} {A : Around}, Q ys s → wpAny (model prog w) A (Builtin.List.listAllItems (.ref D) "must assign iterable to extended slice") Q E s := by
    intro Q E A q
    unfold Builtin.List.listAllItems
    refine wpAny_bind (wpAny_typeOf hD.typeIs ?_)
    refine bm_if_true (by decide) ?_
    unfold Builtin.List.listItems
    exact wpAny_bind (m := seqItems? (.ref D)) (wpAny_seqItems hoD hdD (wpAny_pure q))
  have mine : ∀ {Q : Array Value → Shared → Prop} {E : Value → Shared → Prop} {A : Around}, Q xs s → wpAny (model prog w) A (Builtin.List.listItems (.ref a)) Q E s := by
    intro Q E A q
    unfold Builtin.List.listItems
    exact wpAny_bind (m := seqItems? (.ref a)) (wpAny_seqItems ho rfl (wpAny_pure q))
  refine wpAny_bind (m := Builtin.List.listAllItems (.ref D) _) (all ?_)
  refine wpAny_bind (m := Builtin.List.listItems (.ref a)) (mine ?_)
  refine wpAny_bind (wpAny_of_eq (sliceIndices_raw none (some 2) none xs.size (by decide)) ?_)
  rw [hb]
  refine bm_if_true (by decide) ?_
  refine wpAny_bind (wpAny_rule ?_)
  refine bm_if_false (by unfold Builtin.List.listTooLong; rw [sizeLine_eq]; simp; omega) ?_
  refine wpAny_bind (m := updateSeq a _) ?_
  refine wpAny_updateSeq ho rfl ?_ (by rw [sizeLine_eq]; omega) (by rw [sizeLine_eq]; simp; omega)
  refine wpAny_bind (wpAny_letGo (wpAny_pure ⟨.none, rfl, wpAny_pure h⟩))
/-- the first two of four are set -/
theorem p_store {h₀ : Heap} {L a D : Addr} {m₀ : Str → Option Value} {news news' : List (Addr × Obj)} {c r m f x y : Value} {n n2 : Nat} {t : Tok} {Q : Unit → Shared → Prop} (F : Fr h₀ L s.heap m₀) (N : News h₀ L s.heap news) (U : Upd a (pList c r m f n) (pList x y m f n) news news')
    (hD : (D, listOf #[x, y] n2) ∈ news) (hne : @Ne Nat a D) (h : ∀ h', Fr h₀ L h' m₀ → News h₀ L h' news' → Q () { s with heap := h' }) :
    wpAny (model prog w) A (setItem (.ref a) (.ref s.heap.objs.size) (.ref D)) Q E { s with heap := s.heap.push { cls := .type "slice", data := .fields #[.none, .int 2 t, .none] } } := by
  obtain ⟨pre, post, rfl, rfl, k1, k2⟩ := U.split
  have N₁ := News.pushKeep N { cls := .type "slice", data := .fields #[.none, .int 2 t, .none] }
  have F₁ := F.push { cls := .type "slice", data := .fields #[.none, .int 2 t, .none] }
  have z := N₁ (a, pList c r m f n) (List.mem_append.mpr (.inr (.head _)))
  have zD : (s.heap.push { cls := .type "slice", data := .fields #[.none, .int 2 t, .none] }).IsList D #[x, y] := ⟨_, (N₁ _ hD).1, rfl, n2, rfl⟩
  refine sto_slice z.1 (Heap.IsSliceOf.new ..) zD hne (by simp) (by simp) (by simp) ?_
  exact h _ (F₁.change (Heap.SameBut.update ..) z.2.1 z.2.2) (ki_turn _ N₁ k1 k2 rfl rfl)
end
end

/-! ## part T18 -/
section
theorem top_off_T18 : True := by
  w_top off
  trivial
set_option hygiene false
local macro_rules | `(tactic| k_all) => `(tactic| first | assumption | exact List.forall_mem_cons.mpr ⟨by assumption, by assumption⟩)
local macro_rules | `(tactic| walk_at "setItem ref ref") => `(tactic| (k_here; k_dflt (refine' p_store ?F ?N ?U ?D ?e ?_; (case F => k_asm); (case N => k_asm); (case U => k_upd); (case D => k_mem); (case e => omega)); intro h' F' N'))
local macro_rules | `(tactic| walk_at "execs cons") => `(tactic| (k_here; (with_reducible show wpAny _ _ (execs (Stmt.If (Expr.BoolOp BoolOp.Or _ _) _ _ _ :: _) _) _ _ _); (refine stop_of ?_)))
theorem ne_left {l : List (Addr × Obj)} {a b : Nat} (h : ∀ q ∈ l, @Ne Nat q.1 a ∧ @Ne Nat q.1 b) : ∀ q ∈ l, @Ne Nat q.1 a := fun q hq => (h q hq).1
theorem ne_right {l : List (Addr × Obj)} {a b : Nat} (h : ∀ q ∈ l, @Ne Nat q.1 a ∧ @Ne Nat q.1 b) : ∀ q ∈ l, @Ne Nat q.1 b := fun q hq => (h q hq).2
set_option maxRecDepth 100000 in
set_option maxHeartbeats 8000000 in
theorem block_g3 {w : World} {p : Program} {loose : List Str} {mean : ExcName → Option Value} {mg mb : Str → Option Value} {dp un : Nat} {gd : Option (List Code)} {cn : Str} {cs : Scope} {a : Addr} {ccd : Value} {cl : List (Str × Addr)} {outer : List Env} {base g : Heap} {L L' : Addr} {s : Shared} {o1 o2 o3 o4 o5 o6 o7 o8 : Obj} {Qf : Flow → Shared → Prop} {Ef : Value → Shared → Prop}
    {W Z P S sec slab : Int} {tW tZ tP tS t1 t2 : Tok} {ts : List Tok} {us : List Value} {vx : Value} {M G : Int} {tM tT : Tok} {lf : Addr} {e0 e1 : PEnt} {es : List PEnt} {n : Nat} {sh d : Addr} {tb : List (Addr × Obj)} (hd' : dp + 20 < recursionLimit) (hu : un + 200 < cLine)
    (B : Below (ktrTop dp un gd cn cs L a ccd cl outer) base (envX cn cs L a ccd cl :: outer) g) (X : (hd.heap_39 w.params).In g) (T : Top p loose mean mg mb g)
    (hW : W < 10) (hZ0 : 1 ≤ Z) (hZ1 : Z ≤ 200) (hS0 : 0 ≤ S) (hS1 : S < 400) (hc0 : 4 ≤ sec) (hc1 : sec ≤ 16) (hl0 : 4 ≤ slab) (hl1 : slab ≤ 32) (hP0 : 1 ≤ P) (hP1 : P ≤ 3) (hPW : P < W)
    (d4 : o4.data = .cell (some (.int P tP))) (d5 : o5.data = .cell (some (.int S tS))) (d6 : o6.data = .cell (some (.ref sh))) (d7 : o7.data = .cell (some (.int Z tZ))) (d8 : o8.data = .cell (some (.int W tW)))
    (F : Fr g L' s.heap (fun z => if z = Str.ofString "together" then some (.int G tT) else if z = Str.ofString "due" then some (.ref lf) else if z = Str.ofString "many" then some (.int M tM) else if z = Str.ofString "x" then some vx else none)) (N : News g L' s.heap ((e0.a, pList (.int e0.c e0.u1) (.int e0.r e0.u2) (.int e0.m e0.u3) (.int e0.f e0.u4) e0.n) :: (e1.a, pList (.int e1.c e1.u1) (.int e1.r e1.u2) (.int e1.m e1.u3) (.int e1.f e1.u4) e1.n) :: (lf, listOf (refsP (e0 :: e1 :: es)).toArray n) :: (sh, instObj 146 d) :: (d, shapeDict w.params (.int sec t1) (.int slab t2) ts us) :: cellsOf L' o1 o2 o3 o4 o5 o6 o7 o8 (tb ++ bulkP es)))
    (hne : @Ne Nat e0.a e1.a) (hap : ∀ q ∈ (lf, listOf (refsP (e0 :: e1 :: es)).toArray n) :: (sh, instObj 146 d) :: (d, shapeDict w.params (.int sec t1) (.int slab t2) ts us) :: cellsOf L' o1 o2 o3 o4 o5 o6 o7 o8 (tb ++ bulkP es), @Ne Nat q.1 e0.a ∧ @Ne Nat q.1 e1.a)
    (next : ∀ e0' e1' h' tk', Fr g L' h' (fun z => if z = Str.ofString "together" then some (.int G tT) else if z = Str.ofString "due" then some (.ref lf) else if z = Str.ofString "many" then some (.int M tM) else if z = Str.ofString "x" then some vx else none) → News g L' h' ((e0'.a, pList (.int e0'.c e0'.u1) (.int e0'.r e0'.u2) (.int e0'.m e0'.u3) (.int e0'.f e0'.u4) e0'.n) :: (e1'.a, pList (.int e1'.c e1'.u1) (.int e1'.r e1'.u2) (.int e1'.m e1'.u3) (.int e1'.f e1'.u4) e1'.n) :: (lf, listOf (refsP (e0' :: e1' :: es)).toArray n) :: (sh, instObj 146 d) :: (d, shapeDict w.params (.int sec t1) (.int slab t2) ts us) :: cellsOf L' o1 o2 o3 o4 o5 o6 o7 o8 (tb ++ bulkP es)) → e0'.a = e0.a → e1'.a = e1.a →
      (if P = 1 ∧ S / slab % 2 = 1 then e0'.col = (e1.c, e1.r, e0.m, e0.f) ∧ e1'.col = (e0.c, e0.r, e1.m, e1.f) else e0'.col = e0.col ∧ e1'.col = e1.col) →
      wpAny (model PySem.Challenge.rw_np0177_01.row.prog w) ((ktrTop dp un gd cn cs L a ccd cl outer).deeper (benv w L')) (execs ((blk w).body.drop 9) (benv w L')) Qf Ef { s with heap := h', toks := tk' }) :
    wpAny (model PySem.Challenge.rw_np0177_01.row.prog w) ((ktrTop dp un gd cn cs L a ccd cl outer).deeper (benv w L')) (execs ((blk w).body.drop 8) (benv w L')) Qf Ef s := by
  have hfill : PySem.Challenge.rw_np0177_01 = PySem.Challenge.rw_np0177_01 ∧ hd.heap_39 = hd.heap_39 := by k_fill; exact ⟨rfl, rfl⟩
  clear hfill
  dsimp only [blk, FnIs.of, List.drop] at next ⊢
  have hne' : @Ne Nat e1.a e0.a := hne.symm
  have z0 := ne_left hap
  have z1 := ne_right hap
  clear hap
  k_steps
  all_goals unfold Stop
  all_goals have fe : (S.fdiv slab).fmod 2 = S / slab % 2 := by rw [Int.fdiv_eq_ediv_of_nonneg _ (by omega), Int.fmod_eq_emod_of_nonneg _ (by decide)]
  · rename News g L' _ _ => N9
    rename Fr g L' _ _ => F9
    refine next { e0 with c := e1.c, r := e1.r, u1 := e1.u1, u2 := e1.u2 } { e1 with c := e0.c, r := e0.r, u1 := e0.u1, u2 := e0.u2 } _ _ F9 (fun p hp => N9 p (.tail _ (.tail _ (.tail _ hp)))) rfl rfl ?_
    rw [if_pos ⟨by assumption, fe.symm.trans (by assumption)⟩]
    exact ⟨rfl, rfl⟩
  all_goals
    rename News g L' _ _ => N9
    rename Fr g L' _ _ => F9
    refine next e0 e1 _ _ F9 N9 rfl rfl ?_
    rw [if_neg (by omega)]
    exact ⟨rfl, rfl⟩
end

/-! ## part T19 -/
section
theorem top_off_T19 : True := by
  w_top off
  trivial
set_option hygiene false
theorem shape_in {P : Params} {h₀ h : Heap} {L sh d : Addr} {news : List (Addr × Obj)} {sec slab : Int} {t1 t2 : Tok} {ts : List Tok} {us : List Value} (N : News h₀ L h news) (m1 : (sh, instObj 146 d) ∈ news) (m2 : (d, shapeDict P (.int sec t1) (.int slab t2) ts us) ∈ news) : ShapeIn P h sh sec slab :=
  ⟨d, t1, t2, ts, us, (N _ m1).1, (N _ m2).1⟩
theorem mem_shift2 {α : Type} {x a : α} {B C D E : List α} (h : x ∈ a :: (B ++ (C ++ (D ++ E)))) : x ∈ a :: (E ++ (B ++ (C ++ D))) := by
  simp only [List.mem_cons, List.mem_append] at h ⊢
  rcases h with h | h | h | h | h
  · exact .inl h
  · exact .inr (.inr (.inl h))
  · exact .inr (.inr (.inr (.inl h)))
  · exact .inr (.inr (.inr (.inr h)))
  · exact .inr (.inl h)
local macro_rules | `(tactic| walk_at "call ref") => `(tactic| (k_here; (with_reducible show wpAny _ _ (call (Value.ref 81) _) _ _ _); k_dflt (refine' ct_use (sectors_ct ?a1 ?a2) ?B ?F ?X ?N ?T ?k ?R ?d ?u ?_; (case B => k_asm); (case F => k_asm); (case X => k_asm); (case N => k_asm); (case T => k_asm); (case k => first | exact rfl | assumption); (case d => ktr_room); (case u => ktr_units); (case R => exact ⟨_, _, rfl, shape_in (by k_asm) (by k_mem) (by k_mem)⟩); (case a1 => omega); (case a2 => omega); intro r9 tl9 h9 tk9 F9 N9 g9 m9 d9 o9; obtain ⟨ht9, t9, hr9⟩ := o9; subst hr9; subst ht9; clear m9 d9 g9; (try simp only [List.nil_append] at N9))))
local macro_rules | `(tactic| walk_at "call ref") => `(tactic| (k_here; (with_reducible show wpAny _ _ (call (Value.ref 95) _) _ _ _); k_dflt (refine' ct_use (asize_ct ?a1 ?a2 ?a3 ?a4 ?a5 ?a6) ?B ?F ?X ?N ?T ?k ?R ?d ?u ?_; (case B => k_asm); (case F => k_asm); (case X => k_asm); (case N => k_asm); (case T => k_asm); (case k => first | exact rfl | assumption); (case d => ktr_room); (case u => ktr_units); (case R => exact ⟨_, _, _, _, rfl, shape_in (by k_asm) (by k_mem) (by k_mem)⟩); (case a1 => omega); (case a2 => omega); (case a3 => omega); (case a4 => omega); (case a5 => omega); (case a6 => omega); intro r9 tl9 h9 tk9 F9 N9 g9 m9 d9 o9; obtain ⟨ht9, t9, hr9⟩ := o9; subst hr9; subst ht9; clear m9 d9 g9; (try simp only [List.nil_append] at N9))))
local macro_rules | `(tactic| walk_at "call ref") => `(tactic| (k_here; (with_reducible show wpAny _ _ (call (Value.ref 114) _) _ _ _); k_dflt (refine' ct_use2 (columns_ct ?a1 ?a2 ?a3 ?a4 ?a5 ?a6 ?a7 ?a8 ?a9 ?b1 ?b2 ?b3) ?B ?F ?X ?N ?T ?k ?R ?d ?u ?_; (case B => k_asm); (case F => k_asm); (case X => k_asm); (case N => k_asm); (case T => k_asm); (case k => first | exact rfl | assumption); (case d => ktr_room); (case u => ktr_units); (case R => exact ⟨_, _, _, _, _, rfl, shape_in (by k_asm) (by k_mem) (by k_mem)⟩); (case a1 => omega); (case a2 => omega); (case a3 => omega); (case a4 => omega); (case a5 => omega); (case a6 => omega); (case a7 => omega); (case a8 => omega); (case a9 => omega); (case b1 => omega); (case b2 => omega); (case b3 => omega); intro r9 tl9 h9 tk9 F9 N9 g9 m9 d9 o9; obtain ⟨lc9, ces9, nc9, hr9, ht9, hc9⟩ := o9; subst hr9; subst ht9; clear m9 g9; (try simp only [List.cons_append] at N9))))
local macro_rules | `(tactic| walk_at "execs cons") => `(tactic| (k_here; (with_reducible show wpAny _ _ (execs (Stmt.If (Expr.Compare (Expr.ListComp _ _ _ _) _ _ _) _ _ _ :: _) _) _ _ _); (refine stop_of ?_)))
set_option maxRecDepth 100000 in
set_option maxHeartbeats 8000000 in
theorem block_g4 {w : World} {p : Program} {loose : List Str} {mean : ExcName → Option Value} {mg mb : Str → Option Value} {dp un : Nat} {gd : Option (List Code)} {cn : Str} {cs : Scope} {a : Addr} {ccd : Value} {cl : List (Str × Addr)} {outer : List Env} {base g : Heap} {L L' : Addr} {s : Shared} {o1 o2 o3 o4 o5 o6 o7 o8 : Obj} {Qf : Flow → Shared → Prop} {Ef : Value → Shared → Prop}
    {W Z P S sec slab : Int} {tW tZ tP tS t1 t2 : Tok} {ts : List Tok} {us : List Value} {vx : Value} {M G : Int} {tM tT : Tok} {lf : Addr} {es : List PEnt} {n : Nat} {sh d : Addr} {tb : List (Addr × Obj)} (hd' : dp + 20 < recursionLimit) (hu : un + 200 < cLine)
    (B : Below (ktrTop dp un gd cn cs L a ccd cl outer) base (envX cn cs L a ccd cl :: outer) g) (X : (hd.heap_39 w.params).In g) (T : Top p loose mean mg mb g)
    (hW : W < 10) (hZ0 : 1 ≤ Z) (hZ1 : Z ≤ 200) (hS0 : 0 ≤ S) (hS1 : S < 400) (hc0 : 4 ≤ sec) (hc1 : sec ≤ 16) (hl0 : 4 ≤ slab) (hl1 : slab ≤ 32) (hP0 : 1 ≤ P) (hP1 : P ≤ 3) (hPW : P < W)
    (d4 : o4.data = .cell (some (.int P tP))) (d5 : o5.data = .cell (some (.int S tS))) (d6 : o6.data = .cell (some (.ref sh))) (d7 : o7.data = .cell (some (.int Z tZ))) (d8 : o8.data = .cell (some (.int W tW)))
    (hM : (Z + sec - 1) / sec = M) (hG : (M + P * ((M + W - P - 1) / (W - P)) + P) / (P + 1) * (P + 1) = -(-G).fdiv (P + 1) * (P + 1)) (hG0 : 0 ≤ -(-G).fdiv (P + 1)) (hG1 : -(-G).fdiv (P + 1) ≤ 1000) (hM0 : 1 ≤ M) (hM1 : M ≤ 50)
    (F : Fr g L' s.heap (fun z => if z = Str.ofString "together" then some (.int G tT) else if z = Str.ofString "due" then some (.ref lf) else if z = Str.ofString "many" then some (.int M tM) else if z = Str.ofString "x" then some vx else none)) (N : News g L' s.heap ((lf, listOf (refsP es).toArray n) :: (sh, instObj 146 d) :: (d, shapeDict w.params (.int sec t1) (.int slab t2) ts us) :: cellsOf L' o1 o2 o3 o4 o5 o6 o7 o8 (tb ++ bulkP es)))
    (next : ∀ lc ces nc h' tk', ces.map CEnt.col = finCols (sizes M W P) S W P slab →
      Fr g L' h' (fun z => if z = Str.ofString "some" then some (.ref lc) else if z = Str.ofString "together" then some (.int G tT) else if z = Str.ofString "due" then some (.ref lf) else if z = Str.ofString "many" then some (.int M tM) else if z = Str.ofString "x" then some vx else none) → News g L' h' ((lc, listOf (refsOf ces).toArray nc) :: (lf, listOf (refsP es).toArray n) :: (sh, instObj 146 d) :: (d, shapeDict w.params (.int sec t1) (.int slab t2) ts us) :: cellsOf L' o1 o2 o3 o4 o5 o6 o7 o8 (tb ++ (bulkP es ++ bulkOf w.params ces))) →
      wpAny (model PySem.Challenge.rw_np0177_01.row.prog w) ((ktrTop dp un gd cn cs L a ccd cl outer).deeper (benv w L')) (execs ((blk w).body.drop 11) (benv w L')) Qf Ef { s with heap := h', toks := tk' }) :
    wpAny (model PySem.Challenge.rw_np0177_01.row.prog w) ((ktrTop dp un gd cn cs L a ccd cl outer).deeper (benv w L')) (execs ((blk w).body.drop 9) (benv w L')) Qf Ef s := by
  have hfill : PySem.Challenge.rw_np0177_01 = PySem.Challenge.rw_np0177_01 ∧ hd.heap_39 = hd.heap_39 := by k_fill; exact ⟨rfl, rfl⟩
  clear hfill
  dsimp only [blk, FnIs.of, List.drop] at next ⊢
  k_steps
  · exact absurd hM (by assumption)
  · rename _ ≠ _ => ne9
    rw [hM] at ne9
    exact absurd hG ne9
  · unfold Stop
    rename News g L' _ _ => N9
    rename Fr g L' _ _ => F9
    rename List.map CEnt.col _ = _ => hc9
    rw [hM] at hc9
    exact next _ _ _ _ _ hc9 F9 (fun p hp => N9 p (mem_shift2 (B := [_, _, _, _, _, _, _, _, _, _, _]) hp))
end

/-! ## part T20 -/
section
local macro_rules | `(tactic| walk_at "no such place") => `(tactic| skip)
theorem top_off_T20 : True := by
  w_top off
  trivial
noncomputable def datOf (c : Col4) : Dat := .tuple [.int c.1, .int c.2.1, .int c.2.2.1, .int c.2.2.2]
noncomputable def datsC (ces : List CEnt) : List Dat := ces.map fun e => datOf e.col
noncomputable def datsP (es : List PEnt) : List Dat := es.map fun e => datOf e.col
theorem refsOf_get {es : List CEnt} {i : Nat} {v : Value} (h : (refsOf es).toArray[i]? = some v) : ∃ e, es[i]? = some e ∧ v = .ref e.x := by
  have h' : (refsOf es)[i]? = some v := by simpa using h
  unfold refsOf at h'
  rw [List.getElem?_map] at h'
  cases q : es[i]? with
  | none => rw [q] at h'; cases h'
  | some e => rw [q] at h'; exact ⟨e, rfl, (Option.some.inj h').symm⟩
theorem bulkOf_get {P : Params} {es : List CEnt} {i : Nat} {e : CEnt} (h : es[i]? = some e) : (e.x, instObj 70 e.d) ∈ bulkOf P es ∧ (e.d, e.dict P) ∈ bulkOf P es :=
  ⟨List.mem_flatMap.mpr ⟨e, List.mem_of_getElem? h, .head _⟩, List.mem_flatMap.mpr ⟨e, List.mem_of_getElem? h, .tail _ (.head _)⟩⟩
theorem mem_bulk3 {α : Type} {x : α} {B C D E : List α} (h : x ∈ E) : x ∈ B ++ (C ++ (D ++ E)) := List.mem_append.mpr (.inr (List.mem_append.mpr (.inr (List.mem_append.mpr (.inr h)))))
theorem mem_bulk4 {α : Type} {x : α} {B C D E : List α} (h : x ∈ D) : x ∈ B ++ (C ++ (D ++ E)) := List.mem_append.mpr (.inr (List.mem_append.mpr (.inr (List.mem_append.mpr (.inl h)))))
theorem mem_shift3 {α : Type} {x : α} {B C D E G : List α} (h : x ∈ B ++ (C ++ (D ++ (E ++ G)))) : x ∈ G ++ (B ++ (C ++ (D ++ E))) := by
  simp only [List.mem_append] at h ⊢
  rcases h with h | h | h | h | h
  · exact .inr (.inl h)
  · exact .inr (.inr (.inl h))
  · exact .inr (.inr (.inr (.inl h)))
  · exact .inr (.inr (.inr (.inr h)))
  · exact .inl h
theorem mem_shift4 {α : Type} {x : α} {B C D E G : List α} (h : x ∈ B ++ (C ++ (D ++ E))) : x ∈ B ++ (C ++ (D ++ (E ++ G))) := by
  simp only [List.mem_append] at h ⊢
  rcases h with h | h | h | h
  · exact .inl h
  · exact .inr (.inl h)
  · exact .inr (.inr (.inl h))
  · exact .inr (.inr (.inr (.inl h)))
theorem mem_bulk5 {α : Type} {x : α} {B C D E G : List α} (h : x ∈ G) : x ∈ B ++ (C ++ (D ++ (E ++ G))) := by
  simp only [List.mem_append]
  exact .inr (.inr (.inr (.inr h)))
theorem datsC_ok {es : List CEnt} : ∀ d ∈ datsC es, kqdOk 8 d = true := by
  intro d h
  obtain ⟨c, _, rfl⟩ := List.mem_map.mp h
  rfl
theorem datsP_ok {es : List PEnt} : ∀ d ∈ datsP es, kqdOk 8 d = true := by
  intro d h
  obtain ⟨c, _, rfl⟩ := List.mem_map.mp h
  rfl
theorem datsC_take {es : List CEnt} {i : Nat} {e : CEnt} (h : es[i]? = some e) : (datsC es).take (i + 1) = (datsC es).take i ++ [datOf e.col] := by
  rw [List.take_add_one]
  congr 1
  unfold datsC
  rw [List.getElem?_map, h]; rfl
theorem datsP_take {es : List PEnt} {i : Nat} {e : PEnt} (h : es[i]? = some e) : (datsP es).take (i + 1) = (datsP es).take i ++ [datOf e.col] := by
  rw [List.take_add_one]
  congr 1
  unfold datsP
  rw [List.getElem?_map, h]; rfl
theorem dats_ok {cs : List Col4} : ∀ d ∈ cs.map datOf, kqdOk 8 d = true := by
  intro d h
  obtain ⟨c, _, rfl⟩ := List.mem_map.mp h
  rfl
local macro_rules | `(tactic| walk_at "CompSrc") => `(tactic| (k_here; (refine stop_of ?_)))
local macro_rules | `(tactic| walk_at "execs cons") => `(tactic| (k_here; (with_reducible show wpAny _ _ (execs (Stmt.Assign [Expr.Name _ _] _ _ :: _) _) _ _ _); (refine stop_of ?_)))
set_option maxRecDepth 100000 in
set_option maxHeartbeats 8000000 in
theorem block_g5 {w : World} {p : Program} {loose : List Str} {mean : ExcName → Option Value} {mg mb : Str → Option Value} {dp un : Nat} {gd : Option (List Code)} {cn : Str} {cs : Scope} {a : Addr} {ccd : Value} {cl : List (Str × Addr)} {outer : List Env} {base g : Heap} {L L' : Addr} {s : Shared} {o1 o2 o3 o4 o5 o6 o7 o8 : Obj} {Qf : Flow → Shared → Prop} {Ef : Value → Shared → Prop}
    {W Z P S sec slab : Int} {tW tZ tP tS t1 t2 : Tok} {ts : List Tok} {us : List Value} {vx : Value} {M G : Int} {tM tT : Tok} {lf lc : Addr} {es : List PEnt} {ces : List CEnt} {n nc : Nat} {sh d : Addr} {tb : List (Addr × Obj)} (hd' : dp + 20 < recursionLimit) (hu : un + 200 < cLine)
    (B : Below (ktrTop dp un gd cn cs L a ccd cl outer) base (envX cn cs L a ccd cl :: outer) g) (X : (hd.heap_39 w.params).In g) (T : Top p loose mean mg mb g)
    (hW : W < 10) (hZ0 : 1 ≤ Z) (hZ1 : Z ≤ 200) (hS0 : 0 ≤ S) (hS1 : S < 400) (hc0 : 4 ≤ sec) (hc1 : sec ≤ 16) (hl0 : 4 ≤ slab) (hl1 : slab ≤ 32) (hP0 : 1 ≤ P) (hP1 : P ≤ 3) (hPW : P < W)
    (d4 : o4.data = .cell (some (.int P tP))) (d5 : o5.data = .cell (some (.int S tS))) (d6 : o6.data = .cell (some (.ref sh))) (d7 : o7.data = .cell (some (.int Z tZ))) (d8 : o8.data = .cell (some (.int W tW)))
    (hlen : es.length ≤ 20) (hlenc : ces.length ≤ 20) (hce : ces.map CEnt.col = es.map PEnt.col)
    (F : Fr g L' s.heap (fun z => if z = Str.ofString "some" then some (.ref lc) else if z = Str.ofString "together" then some (.int G tT) else if z = Str.ofString "due" then some (.ref lf) else if z = Str.ofString "many" then some (.int M tM) else if z = Str.ofString "x" then some vx else none)) (N : News g L' s.heap ((lc, listOf (refsOf ces).toArray nc) :: (lf, listOf (refsP es).toArray n) :: (sh, instObj 146 d) :: (d, shapeDict w.params (.int sec t1) (.int slab t2) ts us) :: cellsOf L' o1 o2 o3 o4 o5 o6 o7 o8 (tb ++ (bulkP es ++ bulkOf w.params ces))))
    (next : ∀ h' tk', Fr g L' h' (fun z => if z = Str.ofString "some" then some (.ref lc) else if z = Str.ofString "together" then some (.int G tT) else if z = Str.ofString "due" then some (.ref lf) else if z = Str.ofString "many" then some (.int M tM) else if z = Str.ofString "x" then some vx else none) → News g L' h' ((lc, listOf (refsOf ces).toArray nc) :: (lf, listOf (refsP es).toArray n) :: (sh, instObj 146 d) :: (d, shapeDict w.params (.int sec t1) (.int slab t2) ts us) :: cellsOf L' o1 o2 o3 o4 o5 o6 o7 o8 (tb ++ (bulkP es ++ bulkOf w.params ces))) →
      wpAny (model PySem.Challenge.rw_np0177_01.row.prog w) ((ktrTop dp un gd cn cs L a ccd cl outer).deeper (benv w L')) (execs ((blk w).body.drop 12) (benv w L')) Qf Ef { s with heap := h', toks := tk' }) :
    wpAny (model PySem.Challenge.rw_np0177_01.row.prog w) ((ktrTop dp un gd cn cs L a ccd cl outer).deeper (benv w L')) (execs ((blk w).body.drop 11) (benv w L')) Qf Ef s := by
  have hfill : PySem.Challenge.rw_np0177_01 = PySem.Challenge.rw_np0177_01 ∧ hd.heap_39 = hd.heap_39 := by k_fill; exact ⟨rfl, rfl⟩
  clear hfill
  dsimp only [blk, FnIs.of, List.drop] at next ⊢
  k_steps
  unfold Stop
  refine LCg.CompSrc.ledger (by rfl) F N (.head _) (by rw [List.size_toArray, refs_len, PySem.sizeLine_eq]; omega) ?_
  intro g9
  refine comp_ind (.inr ⟨_, .head _, rfl, _, rfl⟩) (fun i ys extra => DatAll extra ys ((datsC ces).take i)) .nil ?turn1 ?fin1
  case turn1 =>
    intro i ys extra v I oI C oC D m₂ h tk E' hi hy hJ hv hC hx F9 N9 off ne
    obtain ⟨e, he, rfl⟩ := refsOf_get hv
    have hcd := bulkOf_get (P := w.params) he
    have N8 : News g L' h ((e.x, instObj 70 e.d) :: (e.d, colDict w.params e.t1 e.t2 e.t3 e.t4 (.int e.c e.u1) (.int e.r e.u2) (.int e.m e.u3) (.int e.f e.u4)) :: (I, oI) :: (C, oC) :: (D, LCg.lst ys) :: (extra ++ ((lc, listOf (refsOf ces).toArray nc) :: (lf, listOf (refsP es).toArray n) :: (sh, instObj 146 d) :: (d, shapeDict w.params (.int sec t1) (.int slab t2) ts us) :: cellsOf L' o1 o2 o3 o4 o5 o6 o7 o8 (tb ++ (bulkP es ++ bulkOf w.params ces))))) := fun p hp => by
      rcases List.mem_cons.mp hp with rfl | hp
      · exact N9 _ (.tail _ (.tail _ (.tail _ (List.mem_append.mpr (.inr (mem_bulk3 (B := [_, _, _, _, _, _, _, _, _, _, _, _]) hcd.1))))))
      rcases List.mem_cons.mp hp with rfl | hp
      · exact N9 _ (.tail _ (.tail _ (.tail _ (List.mem_append.mpr (.inr (mem_bulk3 (B := [_, _, _, _, _, _, _, _, _, _, _, _]) hcd.2))))))
      · exact N9 p hp
    clear N9 F N next
    k_steps
    rename News g L' _ ((_, _) :: (e.x, _) :: _) => kN9
    rename Fr g L' _ _ => kF9
    rename _ ∧ _ ∧ _ ∧ _ ∧ _ ∧ AllLt _ _ => l19
    show CTurn _ _ _ _ _ _ _ _ _ _ _ _ _ _
    refine ⟨_, _, (_, { cls := .type "tuple", data := .seq [Value.int e.c e.u1, .int e.r e.u2, .int e.m e.u3, .int e.f e.u4].toArray }) :: extra, rfl, kF9, fun p hp => kN9 p ?_, ⟨⟨Nat.ne_of_gt l19.2.2.1, Nat.ne_of_gt l19.2.2.2.1, Nat.ne_of_gt l19.2.2.2.2.1⟩, off_left off⟩, ?_⟩
    · rcases List.mem_cons.mp hp with rfl | hp
      · exact .tail _ (.tail _ (.tail _ (.head _)))
      rcases List.mem_cons.mp hp with rfl | hp
      · exact .tail _ (.tail _ (.tail _ (.tail _ (.head _))))
      rcases List.mem_cons.mp hp with rfl | hp
      · exact .tail _ (.tail _ (.tail _ (.tail _ (.tail _ (.head _)))))
      rcases List.mem_cons.mp hp with rfl | hp
      · exact .head _
      · exact .tail _ (.tail _ (.tail _ (.tail _ (.tail _ (.tail _ hp)))))
    · rw [datsC_take he]
      exact DatAll.append (hJ.mono fun p hp => .tail _ hp) (DatAll.one (DatIn.tuple (vs := [_, _, _, _]) (.head _) (.cons (.int _ _) (.cons (.int _ _) (.cons (.int _ _) (.cons (.int _ _) .nil))))))
  case fin1 =>
    intro ys1 extra1 hJ1
    rw [List.size_toArray, refs_len, List.take_of_length_le (by unfold datsC; rw [List.length_map]; exact Nat.le_refl _)] at hJ1
    refine fun D1 h1 tk1 F1 N1 q1 => ?_
    have N2 : News g L' h1 ((D1, LCg.lst ys1) :: (lc, listOf (refsOf ces).toArray nc) :: (lf, listOf (refsP es).toArray n) :: (sh, instObj 146 d) :: (d, shapeDict w.params (.int sec t1) (.int slab t2) ts us) :: cellsOf L' o1 o2 o3 o4 o5 o6 o7 o8 (tb ++ (bulkP es ++ (bulkOf w.params ces ++ extra1)))) := fun p hp => N1 p (by
      rcases List.mem_cons.mp hp with rfl | hp
      · exact .head _
      · exact .tail _ (mem_shift3 (B := [_, _, _, _, _, _, _, _, _, _, _, _]) hp))
    clear N1 F N q1
    have hyl := hJ1.length
    (try dsimp only)
    with_reducible show wpAny _ _ (eval _ _) _ _ _
    k_steps
    unfold Stop
    refine LCg.CompSrc.ledger (by rfl) F1 N2 (.tail _ (.tail _ (.head _))) (by rw [List.size_toArray, refsP_len, PySem.sizeLine_eq]; omega) ?_
    intro g8
    refine comp_ind (.inr ⟨_, .tail _ (.tail _ (.head _)), rfl, _, rfl⟩) (fun i ys extra => DatAll extra ys ((datsP es).take i)) .nil ?turn2 ?fin2
    case turn2 =>
      intro i ys extra v I oI C oC D m₂ h tk E' hi hy hJ hv hC hx F9 N9 off ne
      obtain ⟨e, he, rfl⟩ := refsP_get hv
      have N8 : News g L' h ((e.a, pList (.int e.c e.u1) (.int e.r e.u2) (.int e.m e.u3) (.int e.f e.u4) e.n) :: (I, oI) :: (C, oC) :: (D, LCg.lst ys) :: (extra ++ ((D1, LCg.lst ys1) :: (lc, listOf (refsOf ces).toArray nc) :: (lf, listOf (refsP es).toArray n) :: (sh, instObj 146 d) :: (d, shapeDict w.params (.int sec t1) (.int slab t2) ts us) :: cellsOf L' o1 o2 o3 o4 o5 o6 o7 o8 (tb ++ (bulkP es ++ (bulkOf w.params ces ++ extra1)))))) := fun p hp => by
        rcases List.mem_cons.mp hp with rfl | hp
        · exact N9 _ (.tail _ (.tail _ (.tail _ (List.mem_append.mpr (.inr (mem_bulk4 (B := [_, _, _, _, _, _, _, _, _, _, _, _, _]) (bulkP_get he)))))))
        · exact N9 p hp
      clear N9 F1 N2 next
      k_steps
      rename News g L' _ ((_, _) :: (e.a, _) :: _) => kN9
      rename Fr g L' _ _ => kF9
      rename _ ∧ _ ∧ _ ∧ _ ∧ AllLt _ _ => l19
      show CTurn _ _ _ _ _ _ _ _ _ _ _ _ _ _
      refine ⟨_, _, (_, { cls := .type "tuple", data := .seq [Value.int e.c e.u1, .int e.r e.u2, .int e.m e.u3, .int e.f e.u4].toArray }) :: extra, rfl, kF9, fun p hp => kN9 p ?_, ⟨⟨Nat.ne_of_gt l19.2.1, Nat.ne_of_gt l19.2.2.1, Nat.ne_of_gt l19.2.2.2.1⟩, off_left off⟩, ?_⟩
      · rcases List.mem_cons.mp hp with rfl | hp
        · exact .tail _ (.tail _ (.head _))
        rcases List.mem_cons.mp hp with rfl | hp
        · exact .tail _ (.tail _ (.tail _ (.head _)))
        rcases List.mem_cons.mp hp with rfl | hp
        · exact .tail _ (.tail _ (.tail _ (.tail _ (.head _))))
        rcases List.mem_cons.mp hp with rfl | hp
        · exact .head _
        · exact .tail _ (.tail _ (.tail _ (.tail _ (.tail _ hp))))
      · rw [datsP_take he]
        exact DatAll.append (hJ.mono fun p hp => .tail _ hp) (DatAll.one (DatIn.tuple (vs := [_, _, _, _]) (.head _) (.cons (.int _ _) (.cons (.int _ _) (.cons (.int _ _) (.cons (.int _ _) .nil))))))
    case fin2 =>
      intro ys2 extra2 hJ2
      rw [List.size_toArray, refsP_len, List.take_of_length_le (by unfold datsP; rw [List.length_map]; exact Nat.le_refl _)] at hJ2
      refine fun D2 h2 tk2 F2 N3 q2 => ?_
      have hde : datsC ces = datsP es := by
        have := congrArg (List.map datOf) hce
        rw [List.map_map, List.map_map] at this
        exact this
      have N4 : News g L' h2 ((lc, listOf (refsOf ces).toArray nc) :: (lf, listOf (refsP es).toArray n) :: (sh, instObj 146 d) :: (d, shapeDict w.params (.int sec t1) (.int slab t2) ts us) :: cellsOf L' o1 o2 o3 o4 o5 o6 o7 o8 (tb ++ (bulkP es ++ bulkOf w.params ces))) := fun p hp => N3 p (.tail _ (List.mem_append.mpr (.inr (.tail _ (mem_shift4 (B := [_, _, _, _, _, _, _, _, _, _, _, _]) hp)))))
      (try dsimp only)
      with_reducible show wpAny _ _ (compareOp _ _ _) _ _ _
      refine kqd_ne (n₁ := extra1) (n₂ := extra2) N3 (.tail _ (List.mem_append.mpr (.inr (.head _)))) rfl rfl hJ1 (fun p hp => .tail _ (List.mem_append.mpr (.inr (mem_bulk5 (B := [_, _, _, _, _, _, _, _, _, _, _, _, _]) hp)))) (.head _) rfl rfl hJ2 (fun p hp => .tail _ (List.mem_append.mpr (.inl hp))) datsC_ok datsP_ok ?hu ?_
      case hu => ke_room
      simp only [hde, decide_true, Bool.not_true]
      clear F1 N2 N3 q2
      k_steps
      unfold Stop
      exact next _ _ F2 N4
end

/-! ## part T21 -/
section
local macro_rules | `(tactic| walk_at "no such place") => `(tactic| skip)
local macro_rules | `(tactic| walk_at "no such place") => `(tactic| skip)
theorem top_off_T21 : True := by
  w_top off
  trivial
noncomputable def octAt (D : Int) (k : Nat) : Int := (D + 41 * (k : Int)).fmod 256
noncomputable def octsOf (D Z : Int) : List Int := (List.range Z.toNat).map (octAt D)
theorem octs_len (D Z : Int) : (octsOf D Z).length = Z.toNat := by simp [octsOf]
theorem octs_in (D Z : Int) : ∀ n ∈ octsOf D Z, 0 ≤ n ∧ n < 256 := by
  intro n h
  obtain ⟨k, _, rfl⟩ := List.mem_map.mp h
  exact fm_bd _ (by decide)
local macro_rules | `(tactic| walk_at "call ref") => `(tactic| (k_here; (with_reducible show wpAny _ _ (call (Value.ref 157) _) _ _ _); k_dflt (refine' ct_use (digit_ct ?a1 ?a2 ?a3) ?B ?F ?X ?N ?T ?k ?R ?d ?u ?_; (case B => k_asm); (case F => k_asm); (case X => k_asm); (case N => k_asm); (case T => k_asm); (case k => first | exact rfl | assumption); (case d => ktr_room); (case u => ktr_units); (case R => exact ⟨_, _, _, rfl, Heap.IsList.at (by assumption) fun o9 e9 => Fr.keep (by k_asm) _ o9 e9, by assumption⟩); (case a1 => omega); (case a2 => omega); (case a3 => omega); intro r9 tl9 h9 tk9 F9 N9 g9 m9 d9 o9; obtain ⟨ht9, t9, hr9⟩ := o9; subst hr9; subst ht9; clear m9 d9 g9; (try simp only [List.nil_append] at N9))))
local macro_rules | `(tactic| walk_at "CompSrc") => `(tactic| (k_here; (refine stop_of ?_)))
local macro_rules | `(tactic| walk_at "execs cons") => `(tactic| (k_here; (with_reducible show wpAny _ _ (execs (Stmt.Assign [Expr.Name _ _] (Expr.BinOp _ _ _ _) _ :: _) _) _ _ _); (refine stop_of ?_)))
set_option maxRecDepth 100000 in
set_option maxHeartbeats 8000000 in
theorem block_g6 {w : World} {p : Program} {loose : List Str} {mean : ExcName → Option Value} {mg mb : Str → Option Value} {dp un : Nat} {gd : Option (List Code)} {cn : Str} {cs : Scope} {a : Addr} {ccd : Value} {cl : List (Str × Addr)} {outer : List Env} {base g : Heap} {L L' : Addr} {s : Shared} {o1 o2 o3 o4 o5 o6 o7 o8 : Obj} {Qf : Flow → Shared → Prop} {Ef : Value → Shared → Prop}
    {W Z P S sec slab : Int} {tW tZ tP tS t1 t2 : Tok} {ts : List Tok} {us : List Value} {vx : Value} {M G : Int} {tM tT t : Tok} {lf lc l : Addr} {es : List PEnt} {ces : List CEnt} {n nc : Nat} {xs : List Value} {ns : List Int} {at' : Int} {sh d : Addr} {tb : List (Addr × Obj)} (hd' : dp + 20 < recursionLimit) (hu : un + 200 < cLine)
    (B : Below (ktrTop dp un gd cn cs L a ccd cl outer) base (envX cn cs L a ccd cl :: outer) g) (X : (hd.heap_39 w.params).In g) (T : Top p loose mean mg mb g)
    (hW : W < 10) (hZ0 : 1 ≤ Z) (hZ1 : Z ≤ 200) (hS0 : 0 ≤ S) (hS1 : S < 400) (hc0 : 4 ≤ sec) (hc1 : sec ≤ 16) (hl0 : 4 ≤ slab) (hl1 : slab ≤ 32) (hP0 : 1 ≤ P) (hP1 : P ≤ 3) (hPW : P < W)
    (d4 : o4.data = .cell (some (.int P tP))) (d5 : o5.data = .cell (some (.int S tS))) (d6 : o6.data = .cell (some (.ref sh))) (d7 : o7.data = .cell (some (.int Z tZ))) (d8 : o8.data = .cell (some (.int W tW)))
    (h0 : 0 ≤ at') (h1 : at' ≤ 25) (h2 : ns.length ≤ 63) (hl : g.IsList l xs.toArray) (hi : IntsAre xs ns) (d1 : o1.data = .cell (some (.ref l))) (d2 : o2.data = .cell (some (.int at' t)))
    (F : Fr g L' s.heap (fun z => if z = Str.ofString "some" then some (.ref lc) else if z = Str.ofString "together" then some (.int G tT) else if z = Str.ofString "due" then some (.ref lf) else if z = Str.ofString "many" then some (.int M tM) else if z = Str.ofString "x" then some vx else none)) (N : News g L' s.heap ((lc, listOf (refsOf ces).toArray nc) :: (lf, listOf (refsP es).toArray n) :: (sh, instObj 146 d) :: (d, shapeDict w.params (.int sec t1) (.int slab t2) ts us) :: cellsOf L' o1 o2 o3 o4 o5 o6 o7 o8 (tb ++ (bulkP es ++ bulkOf w.params ces))))
    (next : ∀ ob tO h' tk', KBw.bInts ob = octsOf (digit ns (at' + 4)) Z → Fr g L' h' (fun z => if z = Str.ofString "octets" then some (.bytes ob tO) else if z = Str.ofString "some" then some (.ref lc) else if z = Str.ofString "together" then some (.int G tT) else if z = Str.ofString "due" then some (.ref lf) else if z = Str.ofString "many" then some (.int M tM) else if z = Str.ofString "x" then some vx else none) → News g L' h' ((lc, listOf (refsOf ces).toArray nc) :: (lf, listOf (refsP es).toArray n) :: (sh, instObj 146 d) :: (d, shapeDict w.params (.int sec t1) (.int slab t2) ts us) :: cellsOf L' o1 o2 o3 o4 o5 o6 o7 o8 (tb ++ (bulkP es ++ bulkOf w.params ces))) →
      wpAny (model PySem.Challenge.rw_np0177_01.row.prog w) ((ktrTop dp un gd cn cs L a ccd cl outer).deeper (benv w L')) (execs ((blk w).body.drop 13) (benv w L')) Qf Ef { s with heap := h', toks := tk' }) :
    wpAny (model PySem.Challenge.rw_np0177_01.row.prog w) ((ktrTop dp un gd cn cs L a ccd cl outer).deeper (benv w L')) (execs ((blk w).body.drop 12) (benv w L')) Qf Ef s := by
  have hfill : PySem.Challenge.rw_np0177_01 = PySem.Challenge.rw_np0177_01 ∧ hd.heap_39 = hd.heap_39 := by k_fill; exact ⟨rfl, rfl⟩
  clear hfill
  dsimp only [blk, FnIs.of, List.drop] at next ⊢
  k_steps
  unfold Stop
  rename Fr g L' _ _ => F9
  rename News g L' _ _ => N9
  rename IsRange _ _ _ _ _ _ _ _ => R9
  refine LCg.CompSrc.range (by rfl) F9 N9 R9 (small_one (by decide) (by decide) (by omega) (by omega)) (rangeSize_nat _ _) (by rw [PySem.sizeLine_eq]; omega) ?_
  intro g9
  refine comp_rng (fun i ys => IntsAre ys ((List.range i).map (octAt (digit ns (at' + 4))))) .nil ?turn ?fin
  case turn =>
    clear F9 N9 R9 next
    intro i ys v I oI C oC D m₂ h tk E' hi9 hy hJ hv hC hx F9 N9 off ne
    obtain ⟨tv, rfl⟩ := hv
    k_steps
    clear N9
    rename News g L' _ _ => N8
    refine ⟨_, _, [], rfl, by assumption, N8, trivial, rfl, ?_⟩
    rw [List.range_succ, List.map_append]
    have e : (digit ns (at' + 4) + 41 * (0 + (i : Int))).fmod 256 = octAt (digit ns (at' + 4)) i := by rw [Int.zero_add]; rfl
    rw [e]
    exact ints_snoc hJ
  case fin =>
    intro ys hJ
    clear F9 N9 R9
    refine fun D9 h9 tk9 F9 N9 q9 => ?_
    (try dsimp only)
    rw [Int.sub_zero] at hJ
    have hJ' : IntsAre ys (octsOf (digit ns (at' + 4)) Z) := hJ
    have hmk := KBa.ints_make (octs_in (digit ns (at' + 4)) Z)
    k_steps
    with_reducible show wpAny _ _ (call _ _) _ _ _
    refine KBa.make_K F9 N9 rfl (News.isList N9 (.head _)) hJ' (octs_in _ _) (by rw [octs_len]; omega) ?_
    intro h8 t8 k8 F8 N8 _
    clear F9 N9
    k_steps
    unfold Stop
    rename News g L' _ _ => N7
    rename Fr g L' _ _ => F7
    exact next _ _ _ _ hmk F7 (fun p hp => N7 p (.tail _ hp))
end

/-! ## part T22 -/
section
theorem top_off_T22 : True := by
  w_top off
  trivial
set_option hygiene false
theorem cell_off {h₀ h : Heap} {L c : Addr} {news : List (Addr × Obj)} {o : Obj} {v : Option Value} (N : News h₀ L h news) (hc : (c, o) ∈ news) (hd : o.data = .cell v) {p : Addr × Obj} (hp : p ∈ news) (hn : ∀ y, p.2.data ≠ .cell y) : @Ne Nat p.1 c := by
  intro e
  have a1 := (N _ hc).1
  have a2 := (N _ hp).1
  rw [e, a1] at a2
  have : o = p.2 := Option.some.inj a2
  exact hn v (this ▸ hd)
theorem bulkP_plain {es : List PEnt} {p : Addr × Obj} (h : p ∈ bulkP es) : ∀ y, p.2.data ≠ .cell y := by
  obtain ⟨e, _, rfl⟩ := List.mem_map.mp h
  intro y q; cases q
theorem bulkOf_plain {P : Params} {es : List CEnt} {p : Addr × Obj} (h : p ∈ bulkOf P es) : ∀ y, p.2.data ≠ .cell y := by
  obtain ⟨e, _, he⟩ := List.mem_flatMap.mp h
  intro y q
  rcases List.mem_cons.mp he with rfl | he
  · cases q
  · rw [List.mem_singleton.mp he] at q; cases q
local macro_rules | `(tactic| walk_at "call type:bytes") => `(tactic| (k_here; (with_reducible show wpAny _ _ (call (Value.type "bytes") [Value.int _ _]) _ _ _); k_dflt (refine' by_call_zero ?a ?b ?_; (case a => omega); (case b => omega))))
local macro_rules | `(tactic| walk_at "binaryOp Add bytes bytes") => `(tactic| (k_here; (with_reducible show wpAny _ _ (binaryOp Operator.Add (Value.bytes _ _) (Value.bytes _ _)) _ _ _); (refine KBy.add_bytes (by (try rw [Array.size_replicate]); omega) ?_); intro _ _))
local macro_rules | `(tactic| walk_at "execs cons") => `(tactic| (k_here; (with_reducible show wpAny _ _ (execs (Stmt.Assign [Expr.Name _ _] (Expr.ListComp _ _ _ _) _ :: _) _) _ _ _); (refine stop_of ?_)))
set_option maxRecDepth 100000 in
set_option maxHeartbeats 8000000 in
theorem block_g7 {w : World} {p : Program} {loose : List Str} {mean : ExcName → Option Value} {mg mb : Str → Option Value} {dp un : Nat} {gd : Option (List Code)} {cn : Str} {cs : Scope} {a : Addr} {ccd : Value} {cl : List (Str × Addr)} {outer : List Env} {base g : Heap} {L L' : Addr} {s : Shared} {o1 o2 o3 o4 o5 o6 o7 o8 : Obj} {Qf : Flow → Shared → Prop} {Ef : Value → Shared → Prop}
    {W Z P S sec slab : Int} {tW tZ tP tS t1 t2 : Tok} {ts : List Tok} {us : List Value} {vx : Value} {M G : Int} {tM tT tO : Tok} {lf lc : Addr} {es : List PEnt} {ces : List CEnt} {n nc : Nat} {ob : Array UInt8} {ks : List Int} {sh d : Addr} {tb : List (Addr × Obj)} (hd' : dp + 20 < recursionLimit) (hu : un + 200 < cLine)
    (B : Below (ktrTop dp un gd cn cs L a ccd cl outer) base (envX cn cs L a ccd cl :: outer) g) (X : (hd.heap_39 w.params).In g) (T : Top p loose mean mg mb g)
    (hW : W < 10) (hZ0 : 1 ≤ Z) (hZ1 : Z ≤ 200) (hS0 : 0 ≤ S) (hS1 : S < 400) (hc0 : 4 ≤ sec) (hc1 : sec ≤ 16) (hl0 : 4 ≤ slab) (hl1 : slab ≤ 32) (hP0 : 1 ≤ P) (hP1 : P ≤ 3) (hPW : P < W)
    (d4 : o4.data = .cell (some (.int P tP))) (d5 : o5.data = .cell (some (.int S tS))) (d6 : o6.data = .cell (some (.ref sh))) (d7 : o7.data = .cell (some (.int Z tZ))) (d8 : o8.data = .cell (some (.int W tW)))
    (hlt : ∀ q ∈ tb, q.1 < L') (d3 : o3.data = .cell none) (hM0 : 1 ≤ M) (hM1 : M ≤ 50) (hms0 : Z ≤ M * sec) (hms1 : M * sec ≤ 1000) (hob : KBw.bInts ob = ks) (hks : ks.length = Z.toNat)
    (F : Fr g L' s.heap (fun z => if z = Str.ofString "octets" then some (.bytes ob tO) else if z = Str.ofString "some" then some (.ref lc) else if z = Str.ofString "together" then some (.int G tT) else if z = Str.ofString "due" then some (.ref lf) else if z = Str.ofString "many" then some (.int M tM) else if z = Str.ofString "x" then some vx else none)) (N : News g L' s.heap ((lc, listOf (refsOf ces).toArray nc) :: (lf, listOf (refsP es).toArray n) :: (sh, instObj 146 d) :: (d, shapeDict w.params (.int sec t1) (.int slab t2) ts us) :: cellsOf L' o1 o2 o3 o4 o5 o6 o7 o8 (tb ++ (bulkP es ++ bulkOf w.params ces))))
    (next : ∀ fb tf o3' h' tk', KBw.bInts fb = ks ++ List.replicate (M * sec - Z).toNat 0 → o3'.data = .cell (some (.bytes fb tf)) → Fr g L' h' (fun z => if z = Str.ofString "octets" then some (.bytes ob tO) else if z = Str.ofString "some" then some (.ref lc) else if z = Str.ofString "together" then some (.int G tT) else if z = Str.ofString "due" then some (.ref lf) else if z = Str.ofString "many" then some (.int M tM) else if z = Str.ofString "x" then some vx else none) → News g L' h' ((lc, listOf (refsOf ces).toArray nc) :: (lf, listOf (refsP es).toArray n) :: (sh, instObj 146 d) :: (d, shapeDict w.params (.int sec t1) (.int slab t2) ts us) :: cellsOf L' o1 o2 o3' o4 o5 o6 o7 o8 (tb ++ (bulkP es ++ bulkOf w.params ces))) →
      wpAny (model PySem.Challenge.rw_np0177_01.row.prog w) ((ktrTop dp un gd cn cs L a ccd cl outer).deeper (benv w L')) (execs ((blk w).body.drop 14) (benv w L')) Qf Ef { s with heap := h', toks := tk' }) :
    wpAny (model PySem.Challenge.rw_np0177_01.row.prog w) ((ktrTop dp un gd cn cs L a ccd cl outer).deeper (benv w L')) (execs ((blk w).body.drop 13) (benv w L')) Qf Ef s := by
  have hfill : PySem.Challenge.rw_np0177_01 = PySem.Challenge.rw_np0177_01 ∧ hd.heap_39 = hd.heap_39 := by k_fill; exact ⟨rfl, rfl⟩
  clear hfill
  dsimp only [blk, FnIs.of, List.drop] at next ⊢
  have hcm : (L' + 1 + 1 + 1, o3) ∈ ((lc, listOf (refsOf ces).toArray nc) :: (lf, listOf (refsP es).toArray n) :: (sh, instObj 146 d) :: (d, shapeDict w.params (.int sec t1) (.int slab t2) ts us) :: cellsOf L' o1 o2 o3 o4 o5 o6 o7 o8 (tb ++ (bulkP es ++ bulkOf w.params ces))) := .tail _ (.tail _ (.tail _ (.tail _ (.tail _ (.tail _ (.tail _ (.tail _ (.tail _ (.head _)))))))))
  have off : ∀ p ∈ ((lc, listOf (refsOf ces).toArray nc) :: (lf, listOf (refsP es).toArray n) :: (sh, instObj 146 d) :: (d, shapeDict w.params (.int sec t1) (.int slab t2) ts us) :: cellsOf L' o1 o2 o3 o4 o5 o6 o7 o8 (tb ++ (bulkP es ++ bulkOf w.params ces))), (∀ y, p.2.data ≠ .cell y) → @Ne Nat p.1 (L' + 1 + 1 + 1) := fun p hp => cell_off N hcm d3 hp
  have y1 := off _ (.head _) (by intro y q; cases q)
  have y2 := off _ (.tail _ (.head _)) (by intro y q; cases q)
  have y3 := off _ (.tail _ (.tail _ (.head _))) (by intro y q; cases q)
  have y4 := off _ (.tail _ (.tail _ (.tail _ (.head _)))) (by intro y q; cases q)
  have z3 : ∀ p ∈ tb ++ (bulkP es ++ bulkOf w.params ces), p.1 ≠ L' + 1 + 1 + 1 := fun p hp => by
    rcases List.mem_append.mp hp with h | h
    · exact tb_off hlt (by omega) p h
    rcases List.mem_append.mp h with h | h
    · exact off p (mem_bulk4 (B := [_, _, _, _, _, _, _, _, _, _, _, _]) h) (bulkP_plain h)
    · exact off p (mem_bulk3 (B := [_, _, _, _, _, _, _, _, _, _, _, _]) h) (bulkOf_plain h)
  have hos : ob.size = Z.toNat := by rw [← KBw.ints_length, hob, hks]
  k_steps
  unfold Stop
  rename News g L' _ _ => N9
  rename Fr g L' _ _ => F9
  exact next _ _ _ _ _ (KBw.ints_app hob (zeros_ints _)) (by assumption) F9 N9
end

/-! ## part T23 -/
section
local macro_rules | `(tactic| walk_at "no such place") => `(tactic| skip)
theorem top_off_T23 : True := by
  w_top off
  trivial
set_option hygiene false
noncomputable def cutOf (fs : List Int) (sec : Int) (e : PEnt) : List Int := (fs.drop (e.f * sec).toNat).take ((e.f + e.m) * sec - e.f * sec).toNat
theorem bvals_snoc {bs : List (Array UInt8 × Tok)} {c : Array UInt8} {t : Tok} : bvals bs ++ [Value.bytes c t] = bvals (bs ++ [(c, t)]) := by rw [bvals_app]; rfl
theorem dropP_get {es : List PEnt} {k i : Nat} {v : Value} (h : ((refsP es).drop k).toArray[i]? = some v) : ∃ e, (es.drop k)[i]? = some e ∧ v = .ref e.a := by
  have h' : ((refsP es).drop k)[i]? = some v := by simpa using h
  unfold refsP at h'
  rw [← List.map_drop, List.getElem?_map] at h'
  cases q : (es.drop k)[i]? with
  | none => rw [q] at h'; cases h'
  | some e => rw [q] at h'; exact ⟨e, rfl, (Option.some.inj h').symm⟩
local macro_rules | `(tactic| walk_at "subscriptTail") => `(tactic| (k_here; (with_reducible show wpAny _ _ (subscriptTail _ (PySem.Expr.Slice _ _ none _) (Value.bytes _ _) (Value.ref _)) _ _ _); k_dflt (refine' by_slice ?F ?N ?k ?a ?b ?z ?_ ?s ?t; (case F => k_asm); (case N => k_asm); (case k => k_asm); (case a => omega); (case b => omega); (case z => omega); (case s => with_unfolding_all rfl); (case t => kmk_pure)); intro c9 h9 t9 k9 F9 N9 hc9 hz9))
local macro_rules | `(tactic| walk_at "subscriptTail Name Slice ref ref") => `(tactic| (k_here; (with_reducible show wpAny _ _ (subscriptTail _ (PySem.Expr.Slice _ _ none _) (Value.ref _) (Value.ref _)) _ _ _); k_dflt (refine' p_slice ?F ?N ?l ?p ?_ ?s ?t ?z; (case F => k_asm); (case N => k_asm); (case l => kmk_list); (case p => omega); (case s => with_unfolding_all rfl); (case t => kmk_pure); (case z => size_fits)); intro D' h' F' N' l1; (try k_lt l1); (try k_sweep)))
local macro_rules | `(tactic| walk_at "exec Assign cons ListComp") => `(tactic| (k_here; (refine stop_of ?_)))
local macro_rules | `(tactic| walk_at "execs cons") => `(tactic| (k_here; (with_reducible show wpAny _ _ (execs (Stmt.Assign [Expr.Name _ _] (Expr.Call _ _ _ _) _ :: _) _) _ _ _); (refine stop_of ?_)))
set_option maxRecDepth 100000 in
set_option maxHeartbeats 8000000 in
theorem block_g8 {w : World} {p : Program} {loose : List Str} {mean : ExcName → Option Value} {mg mb : Str → Option Value} {dp un : Nat} {gd : Option (List Code)} {cn : Str} {cs : Scope} {a : Addr} {ccd : Value} {cl : List (Str × Addr)} {outer : List Env} {base g : Heap} {L L' : Addr} {s : Shared} {o1 o2 o3 o4 o5 o6 o7 o8 : Obj} {Qf : Flow → Shared → Prop} {Ef : Value → Shared → Prop}
    {W Z P S sec slab : Int} {tW tZ tP tS t1 t2 : Tok} {ts : List Tok} {us : List Value} {vx : Value} {M G : Int} {tM tT tO tf : Tok} {lf lc : Addr} {es : List PEnt} {ces : List CEnt} {n nc : Nat} {ob fb : Array UInt8} {fs : List Int} {sh d : Addr} {tb : List (Addr × Obj)} (hd' : dp + 20 < recursionLimit) (hu : un + 200 < cLine)
    (B : Below (ktrTop dp un gd cn cs L a ccd cl outer) base (envX cn cs L a ccd cl :: outer) g) (X : (hd.heap_39 w.params).In g) (T : Top p loose mean mg mb g)
    (hW : W < 10) (hZ0 : 1 ≤ Z) (hZ1 : Z ≤ 200) (hS0 : 0 ≤ S) (hS1 : S < 400) (hc0 : 4 ≤ sec) (hc1 : sec ≤ 16) (hl0 : 4 ≤ slab) (hl1 : slab ≤ 32) (hP0 : 1 ≤ P) (hP1 : P ≤ 3) (hPW : P < W)
    (d4 : o4.data = .cell (some (.int P tP))) (d5 : o5.data = .cell (some (.int S tS))) (d6 : o6.data = .cell (some (.ref sh))) (d7 : o7.data = .cell (some (.int Z tZ))) (d8 : o8.data = .cell (some (.int W tW)))
    (hlen : es.length ≤ 20) (d3 : o3.data = .cell (some (.bytes fb tf))) (hfb : KBw.bInts fb = fs) (hfs : fs.length ≤ 1000)
    (hbd : ∀ e ∈ es.drop P.toNat, 0 ≤ e.f ∧ e.f ≤ 100 ∧ 0 ≤ e.m ∧ e.m ≤ 100)
    (F : Fr g L' s.heap (fun z => if z = Str.ofString "octets" then some (.bytes ob tO) else if z = Str.ofString "some" then some (.ref lc) else if z = Str.ofString "together" then some (.int G tT) else if z = Str.ofString "due" then some (.ref lf) else if z = Str.ofString "many" then some (.int M tM) else if z = Str.ofString "x" then some vx else none)) (N : News g L' s.heap ((lc, listOf (refsOf ces).toArray nc) :: (lf, listOf (refsP es).toArray n) :: (sh, instObj 146 d) :: (d, shapeDict w.params (.int sec t1) (.int slab t2) ts us) :: cellsOf L' o1 o2 o3 o4 o5 o6 o7 o8 (tb ++ (bulkP es ++ bulkOf w.params ces))))
    (next : ∀ lw bs h' tk', bIntsOf bs = (es.drop P.toNat).map (cutOf fs sec) → Fr g L' h' (fun z => if z = Str.ofString "wanted" then some (.ref lw) else if z = Str.ofString "octets" then some (.bytes ob tO) else if z = Str.ofString "some" then some (.ref lc) else if z = Str.ofString "together" then some (.int G tT) else if z = Str.ofString "due" then some (.ref lf) else if z = Str.ofString "many" then some (.int M tM) else if z = Str.ofString "x" then some vx else none) → News g L' h' ((lw, LCg.lst (bvals bs)) :: (lc, listOf (refsOf ces).toArray nc) :: (lf, listOf (refsP es).toArray n) :: (sh, instObj 146 d) :: (d, shapeDict w.params (.int sec t1) (.int slab t2) ts us) :: cellsOf L' o1 o2 o3 o4 o5 o6 o7 o8 (tb ++ (bulkP es ++ bulkOf w.params ces))) →
      wpAny (model PySem.Challenge.rw_np0177_01.row.prog w) ((ktrTop dp un gd cn cs L a ccd cl outer).deeper (benv w L')) (execs ((blk w).body.drop 15) (benv w L')) Qf Ef { s with heap := h', toks := tk' }) :
    wpAny (model PySem.Challenge.rw_np0177_01.row.prog w) ((ktrTop dp un gd cn cs L a ccd cl outer).deeper (benv w L')) (execs ((blk w).body.drop 14) (benv w L')) Qf Ef s := by
  have hfill : PySem.Challenge.rw_np0177_01 = PySem.Challenge.rw_np0177_01 ∧ hd.heap_39 = hd.heap_39 := by k_fill; exact ⟨rfl, rfl⟩
  clear hfill
  dsimp only [blk, FnIs.of, List.drop] at next ⊢
  have hrl := refsP_len es
  k_steps
  unfold Stop
  refine quad_assign (h₀ := g) (m := fun z => if z = Str.ofString "octets" then some (.bytes ob tO) else if z = Str.ofString "some" then some (.ref lc) else if z = Str.ofString "together" then some (.int G tT) else if z = Str.ofString "due" then some (.ref lf) else if z = Str.ofString "many" then some (.int M tM) else if z = Str.ofString "x" then some vx else none) rfl (by with_unfolding_all rfl) (by with_unfolding_all rfl) (by decide) (by rfl) (by decide) (by rfl) (by rfl) (by rfl) (by rfl) (by decide) (by decide) (by decide) (by decide) (by decide) (by decide) (by rfl) (by rfl) ?_
  k_steps
  rename News g L' _ ((_, _) :: _) => N9
  rename Fr g L' _ _ => F9
  refine' ⟨_, ((refsP es).drop P.toNat).toArray, _, fun i ys => ∃ bs, ys = bvals bs ∧ bIntsOf bs = ((es.drop P.toNat).take i).map (cutOf fs sec), fun i e => (es.drop P.toNat)[i]? = some e, rfl, rfl, F9, N9, ?hsz, ⟨_, _, .head _, rfl, rfl⟩, ?hq, ⟨[], rfl, rfl⟩, ?turn, ?fin⟩
  case hsz => rw [List.size_toArray, List.length_drop]; omega
  case hq =>
    intro i v hv
    obtain ⟨e, he, rfl⟩ := dropP_get hv
    exact ⟨e, rfl, .tail _ (mem_bulk4 (B := [_, _, _, _, _, _, _, _, _, _, _, _]) (List.mem_map_of_mem (List.mem_of_mem_drop (List.mem_of_getElem? he)))), he⟩
  case turn =>
    intro g9 i ys e I oI C oC D m₂ h tk E' hi he hy hJ hC e1 e2 e3 e4 hem F8 N8 off ne
    obtain ⟨bs, rfl, hbs⟩ := hJ
    obtain ⟨b1, b2, b3, b4⟩ := hbd e (List.mem_of_getElem? he)
    have b5 : 0 ≤ e.f * sec := Int.mul_nonneg b1 (by omega)
    have b6 : 0 ≤ e.m * sec := Int.mul_nonneg b3 (by omega)
    have b7 : (e.f + e.m) * sec = e.f * sec + e.m * sec := Int.add_mul ..
    have b8 : e.f * sec ≤ 100 * 16 := Int.mul_le_mul b2 hc1 (by omega) (by omega)
    have b9 : e.m * sec ≤ 100 * 16 := Int.mul_le_mul b4 hc1 (by omega) (by omega)
    clear F9 N9 next
    k_steps
    clear hfb
    rename News g L' _ _ => N7
    rename Fr g _ _ _ => F7
    rename KBw.bInts _ = _ => hc7
    refine ⟨_, _, [], rfl, F7, N7, trivial, rfl, bs ++ [(_, _)], bvals_snoc, ?_⟩
    rw [List.take_add_one, he, Option.toList_some, List.map_append, ← hbs]
    unfold bIntsOf
    rw [List.map_append]
    show _ ++ [KBw.bInts _] = _ ++ [cutOf fs sec e]
    rw [hc7]
    rfl
  case fin =>
    intro ys D h tk hJ F8 N8
    obtain ⟨bs, rfl, hbs⟩ := hJ
    rw [List.size_toArray, List.length_drop, refsP_len, List.take_of_length_le (by rw [List.length_drop]; exact Nat.le_refl _)] at hbs
    clear F9 N9
    (try dsimp only)
    with_reducible show wpAny _ _ (execs _ _) _ _ _
    exact next _ _ _ _ hbs F8 (fun p hp => N8 p (by
      rcases List.mem_cons.mp hp with rfl | hp
      · exact .head _
      · exact .tail _ (.tail _ hp)))
end

/-! ## part T24 -/
section
theorem top_off_T24 : True := by
  w_top off
  trivial
open PySem.SeqAt in
theorem eqAt_bytes {A : Around} {s : Shared} {b c : Array UInt8} {t u : Tok} (h : b.toList = c.toList) : EqAt A s (.bytes b t) (.bytes c u) true := fun prog w E Q hq => by
  unfold eqBool
  refine wpAny_holding ?_
  refine wpAny_ite_split (fun _ => wpAny_bind (wpAny_rule (wpAny_pure hq))) (fun _ => ?_)
  refine wpAny_bind (eq_bytes (prog := prog) (w := w) ?_)
  rw [h, beq_self_eq_true]
  exact wpAny_truthy_bool hq
theorem bints_inj {b c : Array UInt8} (h : KBw.bInts b = KBw.bInts c) : b.toList = c.toList := by
  unfold KBw.bInts at h
  refine (List.map_inj_right fun x y e => ?_).mp h
  exact UInt8.toNat_inj.mp (Int.ofNat.inj e)
open PySem.SeqAt in
theorem blist_eq {prog : Program} {w : World} {A : Around} {E : Value → Shared → Prop} {s : Shared} {a b : Addr} {bs cs : List (Array UInt8 × Tok)} {Q : Value → Shared → Prop} (ha : s.heap.IsList a (bvals bs).toArray) (hb : s.heap.IsList b (bvals cs).toArray)
    (he : bIntsOf bs = bIntsOf cs) (hu : A.units < cLine) (h : Q (.bool true) s) : wpAny (model prog w) A (compareOp .Eq (.ref a) (.ref b)) Q E s := by
  have hlen : bs.length = cs.length := by simpa [bIntsOf] using congrArg List.length he
  have hsz : (bvals bs).toArray.size = (bvals cs).toArray.size := by rw [List.size_toArray, List.size_toArray, bvals_len, bvals_len, hlen]
  have r := RcAt.lists (A := A) (e := fun _ => true) ha hb hsz hu (fun j j1 j2 => by
    have k1 : j < bs.length := by simpa [bvals] using j1
    have k2 : j < cs.length := by simpa [bvals] using j2
    have e1 : (bvals bs).toArray[j] = .bytes bs[j].1 bs[j].2 := by simp [bvals]
    have e2 : (bvals cs).toArray[j] = .bytes cs[j].1 cs[j].2 := by simp [bvals]
    rw [e1, e2]
    refine eqAt_bytes (bints_inj ?_)
    have q : (bIntsOf bs)[j]? = (bIntsOf cs)[j]? := by rw [he]
    unfold bIntsOf at q
    rw [List.getElem?_map, List.getElem?_map, List.getElem?_eq_getElem k1, List.getElem?_eq_getElem k2] at q
    exact Option.some.inj q)
  have q := r prog w E Q (by rw [List.all_eq_true.mpr fun _ _ => rfl]; exact h)
  exact q
theorem mem_bulkC {α : Type} {x : α} {B C D : List α} (h : x ∈ C) : x ∈ B ++ (C ++ D) := List.mem_append.mpr (.inr (List.mem_append.mpr (.inl h)))
local macro_rules | `(tactic| walk_at "call ref") => `(tactic| (k_here; (with_reducible show wpAny _ _ (call (Value.ref 121) _) _ _ _); k_dflt (refine' ct_use2 (parts_ct ?a1 ?a2 ?a3 ?a4 ?a5) ?B ?F ?X ?N ?T ?k ?R ?d ?u ?_; (case B => k_asm); (case F => k_asm); (case X => k_asm); (case N => k_asm); (case T => k_asm); (case k => first | exact rfl | assumption); (case d => ktr_room); (case u => ktr_units); (case R => exact ⟨_, _, _, _, _, rfl, by assumption, shape_in (by k_asm) (by k_mem) (by k_mem), News.get (by k_asm) (by k_mem), fun p9 hp9 => News.get (by k_asm) (mem_bulk3 (B := [_, _, _, _, _, _, _, _, _, _, _, _, _]) hp9)⟩); (case a1 => assumption); (case a2 => omega); (case a3 => omega); (case a4 => omega); (case a5 => assumption); intro r9 tl9 h9 tk9 F9 N9 g9 m9 d9 o9; obtain ⟨lp9, bs9, n9, hr9, ht9, hc9⟩ := o9; subst hr9; subst ht9; clear m9 g9; (try simp only [List.cons_append, List.nil_append] at N9))))
local macro_rules | `(tactic| walk_at "call ref") => `(tactic| (k_here; (with_reducible show wpAny _ _ (call (Value.ref 128) _) _ _ _); k_dflt (refine' ct_use2 (joined_ct ?a1 ?a2 ?a3) ?B ?F ?X ?N ?T ?k ?R ?d ?u ?_; (case B => k_asm); (case F => k_asm); (case X => k_asm); (case N => k_asm); (case T => k_asm); (case k => first | exact rfl | assumption); (case d => ktr_room); (case u => ktr_units); (case R => exact ⟨_, _, _, rfl, News.get (by k_asm) (by k_mem)⟩); (case a1 => omega); (case a2 => omega); (case a3 => (rename bIntsOf _ = partsOf _ _ _ => hp9; rw [hp9]; assumption)); intro r9 tl9 h9 tk9 F9 N9 g9 m9 d9 o9; obtain ⟨ht9, b9, t9, hr9, hc9⟩ := o9; subst hr9; subst ht9; clear m9 g9; (try simp only [List.cons_append, List.nil_append] at N9))))
local macro_rules | `(tactic| walk_at "compareOp Eq ref ref") => `(tactic| (k_here; (refine stop_of ?_)))
local macro_rules | `(tactic| walk_at "compareOp Eq bytes bytes") => `(tactic| (k_here; (refine stop_of ?_)))
set_option maxRecDepth 100000 in
set_option maxHeartbeats 8000000 in
theorem block_g9 {w : World} {p : Program} {loose : List Str} {mean : ExcName → Option Value} {mg mb : Str → Option Value} {dp un : Nat} {gd : Option (List Code)} {cn : Str} {cs : Scope} {a : Addr} {ccd : Value} {cl : List (Str × Addr)} {outer : List Env} {base g : Heap} {L L' : Addr} {s : Shared} {o1 o2 o3 o4 o5 o6 o7 o8 : Obj} {Qf : Flow → Shared → Prop} {Ef : Value → Shared → Prop}
    {W Z P S sec slab : Int} {tW tZ tP tS t1 t2 : Tok} {ts : List Tok} {us : List Value} {vx : Value} {M G : Int} {tM tT tO : Tok} {lf lc lw : Addr} {es : List PEnt} {ces : List CEnt} {n nc : Nat} {ob : Array UInt8} {ks : List Int} {bs : List (Array UInt8 × Tok)} {sh d : Addr} {tb : List (Addr × Obj)} (hd' : dp + 20 < recursionLimit) (hu : un + 200 < cLine)
    (B : Below (ktrTop dp un gd cn cs L a ccd cl outer) base (envX cn cs L a ccd cl :: outer) g) (X : (hd.heap_39 w.params).In g) (T : Top p loose mean mg mb g)
    (hW : W < 10) (hZ0 : 1 ≤ Z) (hZ1 : Z ≤ 200) (hS0 : 0 ≤ S) (hS1 : S < 400) (hc0 : 4 ≤ sec) (hc1 : sec ≤ 16) (hl0 : 4 ≤ slab) (hl1 : slab ≤ 32) (hP0 : 1 ≤ P) (hP1 : P ≤ 3) (hPW : P < W)
    (d4 : o4.data = .cell (some (.int P tP))) (d5 : o5.data = .cell (some (.int S tS))) (d6 : o6.data = .cell (some (.ref sh))) (d7 : o7.data = .cell (some (.int Z tZ))) (d8 : o8.data = .cell (some (.int W tW)))
    (hob : KBw.bInts ob = ks) (hks : ks.length ≤ 1000) (hlenc : ces.length ≤ 20) (hb4 : ∀ e ∈ ces, 0 ≤ e.m * sec ∧ e.m * sec ≤ 4000 ∧ (0 ≤ e.f → 0 ≤ e.f * sec ∧ e.f * sec ≤ 4000))
    (hpw : partsOf ks sec (ces.map CEnt.col) = bIntsOf bs) (hfl : (partsOf ks sec (ces.map CEnt.col)).flatten.length ≤ 100000) (hjo : (partsOf ks sec (ces.map CEnt.col)).flatten.take Z.toNat = ks)
    (F : Fr g L' s.heap (fun z => if z = Str.ofString "wanted" then some (.ref lw) else if z = Str.ofString "octets" then some (.bytes ob tO) else if z = Str.ofString "some" then some (.ref lc) else if z = Str.ofString "together" then some (.int G tT) else if z = Str.ofString "due" then some (.ref lf) else if z = Str.ofString "many" then some (.int M tM) else if z = Str.ofString "x" then some vx else none)) (N : News g L' s.heap ((lw, LCg.lst (bvals bs)) :: (lc, listOf (refsOf ces).toArray nc) :: (lf, listOf (refsP es).toArray n) :: (sh, instObj 146 d) :: (d, shapeDict w.params (.int sec t1) (.int slab t2) ts us) :: cellsOf L' o1 o2 o3 o4 o5 o6 o7 o8 (tb ++ (bulkP es ++ bulkOf w.params ces))))
    (hret : ∀ h' tk' m', Fr g L' h' m' → News g L' h' tb → Qf (.ret (.bool true)) { s with heap := h', toks := tk' }) :
    wpAny (model PySem.Challenge.rw_np0177_01.row.prog w) ((ktrTop dp un gd cn cs L a ccd cl outer).deeper (benv w L')) (execs ((blk w).body.drop 15) (benv w L')) Qf Ef s := by
  have hfill : PySem.Challenge.rw_np0177_01 = PySem.Challenge.rw_np0177_01 ∧ hd.heap_39 = hd.heap_39 := by k_fill; exact ⟨rfl, rfl⟩
  clear hfill
  dsimp only [blk, FnIs.of, List.drop]
  k_steps
  unfold Stop
  rename bIntsOf _ = partsOf _ _ _ => hq9
  rename News g L' _ _ => N9
  with_reducible show wpAny _ _ (compareOp _ _ _) _ _ _
  refine blist_eq ⟨_, (N9 _ (.head _)).1, rfl, _, rfl⟩ ⟨_, (N9 _ (.tail _ (.head _))).1, rfl, _, rfl⟩ (hq9.trans hpw) ?hu ?_
  case hu => units_room
  k_steps
  unfold Stop
  rename KBw.bInts _ = List.take _ _ => hj9
  with_reducible show wpAny _ _ (compareOp _ _ _) _ _ _
  refine eq_bytes ?_
  rw [bints_inj (hj9.trans ((hq9 ▸ hjo).trans hob.symm)), beq_self_eq_true]
  clear N9
  k_steps
  rename News g L' _ _ => N7
  rename Fr g L' _ _ => F7
  exact hret _ _ _ F7 (fun p hp => N7 p (mem_bulkC (B := [_, _, _, _, _, _, _, _, _, _, _, _, _, _]) hp))
end

/-! ## part Pl2 -/
section
local macro_rules | `(tactic| walk_at "no such place") => `(tactic| skip)
theorem top_off_Pl2 : True := by
  w_top off
  trivial
/-- many and first alone -/
noncomputable def mf (c : Col4) : Int × Int := (c.2.2.1, c.2.2.2)
noncomputable def mfAt (szs : List Int) (P : Int) (i : Nat) : Int × Int := (szs.getD i 0, if (i : Int) < P then -1 else firstAt szs P i)
noncomputable def mfs (szs : List Int) (P : Int) : List (Int × Int) := (List.range szs.length).map (mfAt szs P)
noncomputable def partMf (ks : List Int) (sec : Int) (c : Int × Int) : List Int :=
  (ks.drop (c.2 * sec).toNat).take (c.1 * sec).toNat ++ List.replicate ((c.1 * sec).toNat - ((ks.drop (c.2 * sec).toNat).take (c.1 * sec).toNat).length) 0
noncomputable def cutMf (fs : List Int) (sec : Int) (c : Int × Int) : List Int := (fs.drop (c.2 * sec).toNat).take ((c.2 + c.1) * sec - c.2 * sec).toNat
theorem mfs_len (szs : List Int) (P : Int) : (mfs szs P).length = szs.length := by simp [mfs]
theorem mf_cols (szs : List Int) (S W P : Int) : (colsTo szs S W P szs.length).map mf = mfs szs P := by
  unfold colsTo mfs
  rw [List.map_map]
  rfl
theorem mf_swap (l : List Col4) : (swap2 l).map mf = l.map mf := by
  match l with
  | [] => rfl
  | [_] => rfl
  | (c0, r0, m0, f0) :: (c1, r1, m1, f1) :: t => rfl
theorem mf_fin (szs : List Int) (S W P slab : Int) : (finCols szs S W P slab).map mf = mfs szs P := by
  unfold finCols
  split
  · rw [mf_swap, mf_cols]
  · exact mf_cols ..
theorem parts_mf (ks : List Int) (sec : Int) (cs : List Col4) : partsOf ks sec cs = ((cs.map mf).filter fun c => decide (0 ≤ c.2)).map (partMf ks sec) := by
  unfold partsOf
  rw [List.filter_map, List.map_map]
  rfl
theorem sum_nn : ∀ {l : List Int}, (∀ x ∈ l, 0 ≤ x) → 0 ≤ l.sum
  | [], _ => by simp
  | a :: l, h => by
    rw [List.sum_cons]
    have h1 := h a (.head _)
    have h2 := sum_nn fun x hx => h x (.tail _ hx)
    omega
section
variable {M W P : Int}
theorem size_at (i : Nat) (hi : i < (sizes M W P).length) : (sizes M W P).getD i 0 = sizeAt M W P i := by
  unfold sizes at hi ⊢
  rw [List.length_map, List.length_range] at hi
  rw [List.getD, List.getElem?_map, List.getElem?_range hi]
  rfl
theorem size_nn (h0 : 1 ≤ M) (h6 : P < W) (k : Nat) : 0 ≤ sizeAt M W P k := by
  have hq : 0 ≤ M / (W - P) := Int.ediv_nonneg (by omega) (by omega)
  unfold sizeAt
  split <;> omega
theorem sizes_nn (h0 : 1 ≤ M) (h6 : P < W) : ∀ x ∈ sizes M W P, 0 ≤ x := by
  intro x hx
  obtain ⟨k, _, rfl⟩ := List.mem_map.mp hx
  exact size_nn h0 h6 k
/-- how many the first n columns hold -/
theorem pre_sum (h4 : 1 ≤ P) (h6 : P < W) : ∀ n : Nat, ((List.range n).map (sizeAt M W P)).sum = (n : Int) * (M / (W - P)) + (if (n : Int) ≤ bigOf M W P then (n : Int) else bigOf M W P)
  | 0 => by
    have := (big_bd (M := M) h4 h6).1
    simp [this]
  | n + 1 => by
    rw [List.range_succ, List.map_append, List.sum_append, pre_sum h4 h6 n]
    simp only [List.map_cons, List.map_nil, List.sum_cons, List.sum_nil, Int.add_zero]
    have e : ((n + 1 : Nat) : Int) * (M / (W - P)) = (n : Int) * (M / (W - P)) + M / (W - P) := by
      rw [Int.natCast_add, Int.add_mul]; simp
    rw [e]
    unfold sizeAt
    have hb := (big_bd (M := M) h4 h6).1
    generalize (n : Int) * (M / (W - P)) = A
    generalize M / (W - P) = q
    generalize bigOf M W P = b at *
    (repeat' split) <;> omega
theorem used_ge (h0 : 1 ≤ M) (h4 : 1 ≤ P) (h6 : P < W) : P.toNat ≤ usedOf M W P := by
  have h1 := Int.emod_nonneg M (show W - P ≠ 0 by omega)
  have h2 := Int.mul_ediv_add_emod M (W - P)
  unfold usedOf
  by_cases hz : M / (W - P) = 0
  · rw [if_pos hz]
    rw [hz] at h2
    unfold bigOf
    split <;> omega
  · rw [if_neg hz]; omega
theorem sizes_length : (sizes M W P).length = usedOf M W P := by simp [sizes]
theorem sizes_sum (h0 : 1 ≤ M) (h4 : 1 ≤ P) (h6 : P < W) : (sizes M W P).sum = W * (M / (W - P)) + bigOf M W P := by
  unfold sizes
  rw [pre_sum h4 h6]
  have hb := big_bd (M := M) h4 h6
  have hq : 0 ≤ M / (W - P) := Int.ediv_nonneg (by omega) (by omega)
  unfold usedOf
  by_cases hz : M / (W - P) = 0
  · rw [if_pos hz, hz, Int.mul_zero, Int.mul_zero]
    split <;> omega
  · rw [if_neg hz, Int.toNat_of_nonneg (by omega)]
    split <;> omega
theorem sizes_drop (h0 : 1 ≤ M) (h4 : 1 ≤ P) (h6 : P < W) : ((sizes M W P).drop P.toNat).sum = M := by
  have e : (sizes M W P).sum = ((sizes M W P).take P.toNat).sum + ((sizes M W P).drop P.toNat).sum := by
    rw [← List.sum_append, List.take_append_drop]
  have t : ((sizes M W P).take P.toNat).sum = P * (M / (W - P)) + (if P ≤ bigOf M W P then P else bigOf M W P) := by
    unfold sizes
    rw [← List.map_take, List.take_range, Nat.min_eq_left (used_ge h0 h4 h6), pre_sum h4 h6, Int.toNat_of_nonneg (by omega)]
  rw [sizes_sum h0 h4 h6, t] at e
  have h1 := Int.emod_nonneg M (show W - P ≠ 0 by omega)
  have h2 := Int.mul_ediv_add_emod M (W - P)
  have h3 : (W - P) * (M / (W - P)) = W * (M / (W - P)) - P * (M / (W - P)) := Int.sub_mul ..
  unfold bigOf at e
  split at e <;> split at e <;> omega
theorem first_nn (h0 : 1 ≤ M) (h6 : P < W) (i : Nat) : 0 ≤ firstAt (sizes M W P) P i := by
  unfold firstAt
  exact sum_nn fun x hx => sizes_nn h0 h6 x (List.mem_of_mem_take (List.mem_of_mem_drop hx))
theorem first_end (h0 : 1 ≤ M) (h4 : 1 ≤ P) (h6 : P < W) : firstAt (sizes M W P) P (sizes M W P).length = M := by
  unfold firstAt
  rw [List.take_of_length_le (Nat.le_refl _), sizes_drop h0 h4 h6]
/-- the firsts grow -/
theorem first_le (h0 : 1 ≤ M) (h4 : 1 ≤ P) (h6 : P < W) (i : Nat) (hi : i < (sizes M W P).length) (hP : P ≤ (i : Int)) : firstAt (sizes M W P) P i + (sizes M W P).getD i 0 ≤ M := by
  have e := first_end h0 h4 h6
  rw [← first_step hP hi]
  have s : (sizes M W P).sum = ((sizes M W P).take (i + 1)).sum + ((sizes M W P).drop (i + 1)).sum := by rw [← List.sum_append, List.take_append_drop]
  have d : ((sizes M W P).drop P.toNat).sum = (((sizes M W P).take (i + 1)).drop P.toNat).sum + ((sizes M W P).drop (i + 1)).sum := by
    have : (sizes M W P).drop P.toNat = ((sizes M W P).take (i + 1)).drop P.toNat ++ (sizes M W P).drop (i + 1) := by
      conv => lhs; rw [← List.take_append_drop (i + 1) (sizes M W P)]
      rw [List.drop_append_of_le_length (by rw [List.length_take]; omega)]
    rw [this, List.sum_append]
  have n : 0 ≤ ((sizes M W P).drop (i + 1)).sum := sum_nn fun x hx => sizes_nn h0 h6 x (List.mem_of_mem_drop hx)
  rw [sizes_drop h0 h4 h6] at d
  unfold firstAt
  omega
/-- parity apart, the rest are the block's own -/
theorem mfs_filter (h0 : 1 ≤ M) (h4 : 1 ≤ P) (h6 : P < W) : (mfs (sizes M W P) P).filter (fun c => decide (0 ≤ c.2)) = (mfs (sizes M W P) P).drop P.toNat := by
  have hl : P.toNat ≤ (sizes M W P).length := by rw [sizes_length]; exact used_ge h0 h4 h6
  conv => lhs; rw [← List.take_append_drop P.toNat (mfs (sizes M W P) P)]
  rw [List.filter_append]
  have a : ((mfs (sizes M W P) P).take P.toNat).filter (fun c => decide (0 ≤ c.2)) = [] := by
    rw [List.filter_eq_nil_iff]
    intro c hc
    unfold mfs at hc
    rw [← List.map_take, List.take_range, Nat.min_eq_left hl] at hc
    obtain ⟨i, hi, rfl⟩ := List.mem_map.mp hc
    have hi := List.mem_range.mp hi
    unfold mfAt
    rw [if_pos (by omega)]
    simp
  have b : ((mfs (sizes M W P) P).drop P.toNat).filter (fun c => decide (0 ≤ c.2)) = (mfs (sizes M W P) P).drop P.toNat := by
    rw [List.filter_eq_self]
    intro c hc
    obtain ⟨j, hj, e⟩ := List.mem_iff_getElem.mp hc
    rw [List.getElem_drop] at e
    have hj' : P.toNat + j < (sizes M W P).length := by
      rw [List.length_drop, mfs_len] at hj; omega
    unfold mfs at e
    rw [List.getElem_map, List.getElem_range] at e
    rw [← e]
    unfold mfAt
    rw [if_neg (by omega)]
    have := first_nn h0 h6 (P.toNat + j)
    simp [this]
  rw [a, b, List.nil_append]
theorem drop_app_rep {ks : List Int} {z a b : Nat} (h : a + b ≤ ks.length + z) : (ks.drop a).take b ++ List.replicate (b - ((ks.drop a).take b).length) 0 = ((ks ++ List.replicate z 0).drop a).take b := by
  apply List.ext_getElem?
  intro i
  rw [List.getElem?_take]
  by_cases hib : i < b
  · rw [if_pos hib, List.getElem?_drop]
    have hl : ((ks.drop a).take b).length = min b (ks.length - a) := by rw [List.length_take, List.length_drop]
    by_cases h1 : a + i < ks.length
    · rw [List.getElem?_append_left (by rw [hl]; omega), List.getElem?_append_left h1, List.getElem?_take, if_pos hib, List.getElem?_drop]
    · rw [List.getElem?_append_right (by rw [hl]; omega), List.getElem?_append_right (by omega), List.getElem?_replicate, List.getElem?_replicate, hl, if_pos (by omega), if_pos (by omega)]
  · rw [if_neg hib]
    apply List.getElem?_eq_none
    rw [List.length_append, List.length_replicate]
    have : ((ks.drop a).take b).length ≤ b := by rw [List.length_take]; omega
    omega
/-- the parts, filled up, are what was cut from the filled block -/
theorem law_parts {ks : List Int} {sec S slab : Int} {z : Nat} (h0 : 1 ≤ M) (h4 : 1 ≤ P) (h6 : P < W) (hs : 0 < sec) (hz : ((ks.length + z : Nat) : Int) = M * sec) :
    partsOf ks sec (finCols (sizes M W P) S W P slab) = ((mfs (sizes M W P) P).drop P.toNat).map (cutMf (ks ++ List.replicate z 0) sec) := by
  rw [parts_mf, mf_fin, mfs_filter h0 h4 h6]
  refine List.map_congr_left fun c hc => ?_
  obtain ⟨j, hj, e⟩ := List.mem_iff_getElem.mp hc
  rw [List.getElem_drop] at e
  have hj' : P.toNat + j < (sizes M W P).length := by rw [List.length_drop, mfs_len] at hj; omega
  unfold mfs at e
  rw [List.getElem_map, List.getElem_range] at e
  rw [← e]
  have hn := first_nn h0 h6 (P.toNat + j)
  have hm := size_nn h0 h6 (P.toNat + j) (M := M) (W := W) (P := P)
  have hle := first_le h0 h4 h6 (P.toNat + j) hj' (by omega)
  rw [← size_at _ hj'] at hm
  unfold mfAt partMf cutMf
  rw [if_neg (by omega)]
  generalize firstAt (sizes M W P) P (P.toNat + j) = f at *
  generalize (sizes M W P).getD (P.toNat + j) 0 = mm at *
  dsimp only
  have e1 : (f + mm) * sec - f * sec = mm * sec := by rw [Int.add_mul]; omega
  rw [e1]
  have p1 : 0 ≤ f * sec := Int.mul_nonneg hn (by omega)
  have p2 : 0 ≤ mm * sec := Int.mul_nonneg hm (by omega)
  have p3 : (f + mm) * sec ≤ M * sec := Int.mul_le_mul_of_nonneg_right hle (by omega)
  rw [Int.add_mul] at p3
  exact drop_app_rep (by omega)
theorem size_le (h0 : 1 ≤ M) (h1 : M ≤ 50) (h4 : 1 ≤ P) (h6 : P < W) (i : Nat) (hi : i < (sizes M W P).length) : (sizes M W P).getD i 0 ≤ 51 := by
  rw [size_at i hi]
  have hq : M / (W - P) ≤ 50 := Int.le_trans (Int.ediv_le_self _ (by omega)) h1
  unfold sizeAt
  split <;> omega
theorem sizes_sum_le (h0 : 1 ≤ M) (h1 : M ≤ 50) (h4 : 1 ≤ P) (h5 : P ≤ 3) (h6 : P < W) : (sizes M W P).sum ≤ 250 := by
  rw [sizes_sum h0 h4 h6]
  have a := Int.mul_ediv_add_emod M (W - P)
  have b := Int.emod_nonneg M (show W - P ≠ 0 by omega)
  have h3 : (W - P) * (M / (W - P)) = W * (M / (W - P)) - P * (M / (W - P)) := Int.sub_mul ..
  have hq : M / (W - P) ≤ 50 := Int.le_trans (Int.ediv_le_self _ (by omega)) h1
  have hq0 : 0 ≤ M / (W - P) := Int.ediv_nonneg (by omega) (by omega)
  have hpq : P * (M / (W - P)) ≤ 3 * 50 := Int.mul_le_mul h5 hq hq0 (by omega)
  unfold bigOf
  split <;> omega
/-- what was cut, laid one behind another -/
theorem law_flat {fs : List Int} {sec : Int} (h0 : 1 ≤ M) (h4 : 1 ≤ P) (h6 : P < W) (hs : 0 < sec) : ∀ k : Nat, P.toNat + k ≤ (sizes M W P).length →
    ((((mfs (sizes M W P) P).drop P.toNat).take k).map (cutMf fs sec)).flatten = fs.take (firstAt (sizes M W P) P (P.toNat + k) * sec).toNat
  | 0, _ => by
    rw [List.take_zero, Nat.add_zero, firstAt_self]
    simp
  | k + 1, hk => by
    have hj : k < ((mfs (sizes M W P) P).drop P.toNat).length := by rw [List.length_drop, mfs_len]; omega
    rw [List.take_succ_eq_append_getElem hj, List.map_append, List.flatten_append, law_flat h0 h4 h6 hs k (by omega)]
    have e : ((mfs (sizes M W P) P).drop P.toNat)[k] = mfAt (sizes M W P) P (P.toNat + k) := by
      rw [List.getElem_drop]
      unfold mfs
      rw [List.getElem_map, List.getElem_range]
    rw [e]
    have hn := first_nn h0 h6 (P.toNat + k)
    have hm := size_nn h0 h6 (P.toNat + k) (M := M) (W := W) (P := P)
    rw [← size_at _ (by omega)] at hm
    rw [← Nat.add_assoc, first_step (by omega) (by omega)]
    simp only [List.map_cons, List.map_nil, List.flatten_cons, List.flatten_nil, List.append_nil]
    unfold mfAt cutMf
    rw [if_neg (by omega)]
    generalize firstAt (sizes M W P) P (P.toNat + k) = f at *
    generalize (sizes M W P).getD (P.toNat + k) 0 = mm at *
    dsimp only
    have e1 : (f + mm) * sec - f * sec = mm * sec := by rw [Int.add_mul]; omega
    have p1 : 0 ≤ f * sec := Int.mul_nonneg hn (by omega)
    have p2 : 0 ≤ mm * sec := Int.mul_nonneg hm (by omega)
    rw [e1, Int.add_mul, Int.toNat_add p1 p2, List.take_add]
theorem law_flat_all {fs : List Int} {sec : Int} (h0 : 1 ≤ M) (h4 : 1 ≤ P) (h6 : P < W) (hs : 0 < sec) (hf : (fs.length : Int) = M * sec) : (((mfs (sizes M W P) P).drop P.toNat).map (cutMf fs sec)).flatten = fs := by
  have hl : P.toNat ≤ (sizes M W P).length := by rw [sizes_length]; exact used_ge h0 h4 h6
  have q := law_flat (fs := fs) h0 h4 h6 hs ((sizes M W P).length - P.toNat) (by omega)
  rw [List.take_of_length_le (by rw [List.length_drop, mfs_len]; exact Nat.le_refl _)] at q
  rw [q, show P.toNat + ((sizes M W P).length - P.toNat) = (sizes M W P).length by omega, first_end h0 h4 h6, List.take_of_length_le (by omega)]
/-- the sum of all columns, rounded up to parity and one -/
theorem law_asize (h0 : 1 ≤ M) (h4 : 1 ≤ P) (h6 : P < W) : (M + P * ((M + W - P - 1) / (W - P)) + P) / (P + 1) * (P + 1) = -(-(sizes M W P).sum).fdiv (P + 1) * (P + 1) := by
  have e : M + P * ((M + W - P - 1) / (W - P)) = (sizes M W P).sum := by
    rw [sizes_sum h0 h4 h6]
    have q := many_up (Z := M) (sec := W - P) (by omega)
    rw [show M + W - P - 1 = M + (W - P) - 1 by omega, ← q, total_eq h4 h6]
  rw [e]
  have q := many_up (Z := (sizes M W P).sum) (sec := P + 1) (by omega)
  rw [show (sizes M W P).sum + P = (sizes M W P).sum + (P + 1) - 1 by omega, ← q]
end
end

/-! ## part T25 -/
section
local macro_rules | `(tactic| walk_at "no such place") => `(tactic| skip)
local macro_rules | `(tactic| walk_at "no such place") => `(tactic| skip)
theorem top_off_T25 : True := by
  w_top off
  trivial
theorem nodup3 {lf a b : Addr} {as : List Addr} (h : (lf :: a :: b :: as).Nodup) : @Ne Nat lf a ∧ @Ne Nat lf b ∧ @Ne Nat a b ∧ (∀ x ∈ as, @Ne Nat x a) ∧ ∀ x ∈ as, @Ne Nat x b := by
  simp only [List.nodup_cons, List.mem_cons, not_or] at h
  exact ⟨h.1.1, h.1.2.1, h.2.1.1, fun x hx e => h.2.1.2 (e ▸ hx), fun x hx e => h.2.2.1 (e ▸ hx)⟩
theorem fin_of {szs : List Int} {S W P slab : Int} {e0 e1 e0' e1' : PEnt} {es : List PEnt} (hcol : (e0 :: e1 :: es).map PEnt.col = colsTo szs S W P szs.length)
    (h : if P = 1 ∧ S / slab % 2 = 1 then e0'.col = (e1.c, e1.r, e0.m, e0.f) ∧ e1'.col = (e0.c, e0.r, e1.m, e1.f) else e0'.col = e0.col ∧ e1'.col = e1.col) : (e0' :: e1' :: es).map PEnt.col = finCols szs S W P slab := by
  unfold finCols
  rw [← hcol]
  by_cases c : P = 1 ∧ S / slab % 2 = 1
  · rw [if_pos c] at h ⊢
    simp only [List.map_cons, h.1, h.2]
    rfl
  · rw [if_neg c] at h ⊢
    simp only [List.map_cons, h.1, h.2]
theorem cut_col {fs : List Int} {sec : Int} {es : List PEnt} {P : Int} {szs : List Int} {S W slab : Int} (h : es.map PEnt.col = finCols szs S W P slab) : (es.drop P.toNat).map (cutOf fs sec) = ((mfs szs P).drop P.toNat).map (cutMf fs sec) := by
  rw [← mf_fin szs S W P slab, ← h, List.map_map, ← List.map_drop, List.map_map]
  rfl
theorem mf_mem {szs : List Int} {S W P slab : Int} {c : Col4} (h : c ∈ finCols szs S W P slab) : ∃ i, i < szs.length ∧ mf c = mfAt szs P i := by
  have : mf c ∈ mfs szs P := by rw [← mf_fin szs S W P slab]; exact List.mem_map_of_mem h
  obtain ⟨i, hi, e⟩ := List.mem_map.mp this
  exact ⟨i, List.mem_range.mp hi, e.symm⟩
theorem mf_drop {szs : List Int} {S W P slab : Int} {c : Col4} (hP : 1 ≤ P) (h : c ∈ (finCols szs S W P slab).drop P.toNat) : ∃ i, i < szs.length ∧ P ≤ (i : Int) ∧ c.2.2.1 = szs.getD i 0 ∧ c.2.2.2 = firstAt szs P i := by
  have : mf c ∈ (mfs szs P).drop P.toNat := by
    rw [← mf_fin szs S W P slab, ← List.map_drop]
    exact List.mem_map_of_mem h
  obtain ⟨j, hj, e⟩ := List.mem_iff_getElem.mp this
  rw [List.getElem_drop] at e
  have hj' : P.toNat + j < szs.length := by rw [List.length_drop, mfs_len] at hj; omega
  unfold mfs at e
  rw [List.getElem_map, List.getElem_range] at e
  unfold mfAt at e
  rw [if_neg (by omega)] at e
  exact ⟨P.toNat + j, hj', by omega, (congrArg Prod.fst e).symm, (congrArg Prod.snd e).symm⟩
set_option maxRecDepth 100000 in
set_option maxHeartbeats 8000000 in
theorem block_good {w : World} {p : Program} {loose : List Str} {mean : ExcName → Option Value} {mg mb : Str → Option Value} {dp un : Nat} {gd : Option (List Code)} {cn : Str} {cs : Scope} {a : Addr} {ccd : Value} {cl : List (Str × Addr)} {outer : List Env} {base g : Heap} {L L' : Addr} {s : Shared} {o1 o2 o3 o4 o5 o6 o7 o8 : Obj} {Qf : Flow → Shared → Prop} {Ef : Value → Shared → Prop}
    {W Z P S sec slab : Int} {tW tZ tP tS t1 t2 : Tok} {ts : List Tok} {us : List Value} {vx : Value} {t : Tok} {l : Addr} {xs : List Value} {ns : List Int} {at' : Int} {sh d : Addr} {tb : List (Addr × Obj)} (hd' : dp + 20 < recursionLimit) (hu : un + 200 < cLine)
    (B : Below (ktrTop dp un gd cn cs L a ccd cl outer) base (envX cn cs L a ccd cl :: outer) g) (X : (hd.heap_39 w.params).In g) (T : Top p loose mean mg mb g)
    (hW : W < 10) (hZ0 : 1 ≤ Z) (hZ1 : Z ≤ 200) (hS0 : 0 ≤ S) (hS1 : S < 400) (hc0 : 4 ≤ sec) (hc1 : sec ≤ 16) (hl0 : 4 ≤ slab) (hl1 : slab ≤ 32) (hP0 : 1 ≤ P) (hP1 : P ≤ 3) (hPW : P < W)
    (d4 : o4.data = .cell (some (.int P tP))) (d5 : o5.data = .cell (some (.int S tS))) (d6 : o6.data = .cell (some (.ref sh))) (d7 : o7.data = .cell (some (.int Z tZ))) (d8 : o8.data = .cell (some (.int W tW)))
    (h0 : 0 ≤ at') (h1 : at' ≤ 25) (h2 : ns.length ≤ 63) (hl : g.IsList l xs.toArray) (hi : IntsAre xs ns) (d1 : o1.data = .cell (some (.ref l))) (d2 : o2.data = .cell (some (.int at' t))) (d3 : o3.data = .cell none) (hlt : ∀ q ∈ tb, q.1 < L')
    (F : Fr g L' s.heap (fun z => if z = Str.ofString "x" then some vx else none)) (N : News g L' s.heap ((sh, instObj 146 d) :: (d, shapeDict w.params (.int sec t1) (.int slab t2) ts us) :: cellsOf L' o1 o2 o3 o4 o5 o6 o7 o8 tb))
    (hret : ∀ h' tk' m', Fr g L' h' m' → News g L' h' tb → Qf (.ret (.bool true)) { s with heap := h', toks := tk' }) :
    wpAny (model PySem.Challenge.rw_np0177_01.row.prog w) ((ktrTop dp un gd cn cs L a ccd cl outer).deeper (benv w L')) (execs ((blk w).body.drop 5) (benv w L')) Qf Ef s := by
  obtain ⟨hM0, hM1⟩ := sect_bd hZ0 hZ1 hc0
  refine block_g1 hd' hu B X T hW hZ0 hZ1 hS0 hS1 hc0 hc1 hl0 hl1 hP0 hP1 hPW d4 d5 d6 d7 d8 F N ?_
  intro lf es n tM h1 tk1 hcol hnd hap F1 N1
  generalize hMe : (Z + sec - 1) / sec = M at *
  have hms0 : Z ≤ M * sec := by
    have a := Int.mul_ediv_add_emod (Z + sec - 1) sec
    have b := Int.emod_lt_of_pos (Z + sec - 1) (show 0 < sec by omega)
    rw [hMe, Int.mul_comm] at a
    omega
  have hms1 : M * sec ≤ 1000 := by
    have a := Int.mul_ediv_add_emod (Z + sec - 1) sec
    have b := Int.emod_nonneg (Z + sec - 1) (show sec ≠ 0 by omega)
    rw [hMe, Int.mul_comm] at a
    omega
  have hl2 := sizes_len2 (M := M) (W := W) (P := P) hM0 hP0 hPW
  have hl20 := sizes_len (M := M) hP0 hP1 hPW hW
  have hel : es.length = (sizes M W P).length := by
    have := congrArg List.length hcol
    simpa [colsTo] using this
  refine block_g2 hd' hu B X T hW hZ0 hZ1 hS0 hS1 hc0 hc1 hl0 hl1 hP0 hP1 hPW d4 d5 d6 d7 d8 (by omega) F1 N1 ?_
  intro tT h2 tk2 F2 N2
  have hsum : manyOf (es.map PEnt.col) = sizes M W P := by
    rw [hcol]
    unfold manyOf colsTo
    rw [List.map_map]
    refine (List.map_congr_left (g := fun i => (sizes M W P).getD i 0) fun i _ => rfl).trans ?_
    apply List.ext_getElem
    · simp
    · intro k k1 k2
      simp [List.getD, k2]
  rw [hsum] at F2
  obtain ⟨e0, e1, es', rfl⟩ : ∃ e0 e1 es', es = e0 :: e1 :: es' := by
    match es, hel with
    | e0 :: e1 :: es', _ => exact ⟨e0, e1, es', rfl⟩
    | [_], h => simp at h; omega
    | [], h => simp at h; omega
  obtain ⟨n1, n2, n3, n4, n5⟩ := nodup3 hnd
  have m0 : e0.obj ∈ (lf, listOf (refsP (e0 :: e1 :: es')).toArray n) :: bulkP (e0 :: e1 :: es') := .tail _ (.head _)
  have m1 : e1.obj ∈ (lf, listOf (refsP (e0 :: e1 :: es')).toArray n) :: bulkP (e0 :: e1 :: es') := .tail _ (.tail _ (.head _))
  refine block_g3 (es := es') (o1 := o1) (o2 := o2) (o3 := o3) (t1 := t1) (t2 := t2) (ts := ts) (us := us) (sh := sh) (d := d) (tb := tb) (n := n) hd' hu B X T hW hZ0 hZ1 hS0 hS1 hc0 hc1 hl0 hl1 hP0 hP1 hPW d4 d5 d6 d7 d8 F2 ?nn n3 ?hap ?_
  case nn =>
    intro p hp
    rcases List.mem_cons.mp hp with rfl | hp
    · exact N2 _ (mem_bulk (B := [_, _, _, _, _, _, _, _, _, _, _]) (.head _))
    rcases List.mem_cons.mp hp with rfl | hp
    · exact N2 _ (mem_bulk (B := [_, _, _, _, _, _, _, _, _, _, _]) (.tail _ (.head _)))
    exact N2 p (mem_more (B := [_, _, _, _, _, _, _, _, _, _, _]) (fun q hq => .tail _ (.tail _ hq)) hp)
  case hap =>
    intro q hq
    rcases List.mem_cons.mp hq with rfl | hq
    · exact ⟨n1, n2⟩
    rcases mem_split2 (B := [_, _, _, _, _, _, _, _, _, _]) hq with hq | hq
    · exact ⟨Ne.symm (hap q hq e0.obj m0), Ne.symm (hap q hq e1.obj m1)⟩
    · have ha : q.1 ∈ adsP es' := by rw [← bulkP_ads]; exact List.mem_map_of_mem hq
      exact ⟨n4 _ ha, n5 _ ha⟩
  intro e0' e1' h3 tk3 F3 N3 ha0 ha1 hsw
  have hfin := fin_of hcol hsw
  refine block_g4 (es := e0' :: e1' :: es') (o1 := o1) (o2 := o2) (o3 := o3) (t1 := t1) (t2 := t2) (ts := ts) (us := us) (sh := sh) (d := d) (tb := tb) (n := n) hd' hu B X T hW hZ0 hZ1 hS0 hS1 hc0 hc1 hl0 hl1 hP0 hP1 hPW d4 d5 d6 d7 d8 hMe (law_asize hM0 hP0 hPW) ?g0 ?g1 hM0 hM1 F3 ?nn4 ?_
  case g0 =>
    rw [many_up (by omega)]
    exact Int.ediv_nonneg (by have := sum_nn (sizes_nn (M := M) (W := W) (P := P) hM0 hPW); omega) (by omega)
  case g1 =>
    rw [many_up (by omega)]
    refine Int.le_of_lt_add_one ((Int.ediv_lt_iff_lt_mul (by omega)).mpr ?_)
    have := sizes_sum_le hM0 hM1 hP0 hP1 hPW
    omega
  case nn4 =>
    intro p hp
    rcases List.mem_cons.mp hp with rfl | hp
    · exact N3 _ (.tail _ (.tail _ (.head _)))
    rcases mem_split2 (B := [_, _, _, _, _, _, _, _, _, _]) hp with hq | hq
    · exact N3 p (.tail _ (.tail _ (.tail _ (mem_more (B := [_, _, _, _, _, _, _, _, _, _]) (D := []) (fun _ h => nomatch h) (by rw [List.append_nil]; exact hq)))))
    · rcases List.mem_cons.mp hq with rfl | hq
      · exact N3 _ (.head _)
      rcases List.mem_cons.mp hq with rfl | hq
      · exact N3 _ (.tail _ (.head _))
      · exact N3 p (.tail _ (.tail _ (.tail _ (mem_bulk (B := [_, _, _, _, _, _, _, _, _, _]) hq))))
  intro lc ces nc h4 tk4 hce F4 N4
  have hcl : ces.length = (sizes M W P).length := by
    have a := congrArg List.length (hce.trans hfin.symm)
    have b := congrArg List.length hcol
    simp [colsTo] at a b
    omega
  have hel2 : (e0' :: e1' :: es').length = (sizes M W P).length := by rw [← hel]; rfl
  refine block_g5 (es := e0' :: e1' :: es') hd' hu B X T hW hZ0 hZ1 hS0 hS1 hc0 hc1 hl0 hl1 hP0 hP1 hPW d4 d5 d6 d7 d8 (by omega) (by omega) (hce.trans hfin.symm) F4 N4 ?_
  intro h5 tk5 F5 N5
  refine block_g6 (es := e0' :: e1' :: es') hd' hu B X T hW hZ0 hZ1 hS0 hS1 hc0 hc1 hl0 hl1 hP0 hP1 hPW d4 d5 d6 d7 d8 h0 (by assumption) (by assumption) hl hi d1 d2 F5 N5 ?_
  intro ob tO h6 tk6 hob F6 N6
  have hkl := octs_len (digit ns (at' + 4)) Z
  refine block_g7 (es := e0' :: e1' :: es') hd' hu B X T hW hZ0 hZ1 hS0 hS1 hc0 hc1 hl0 hl1 hP0 hP1 hPW d4 d5 d6 d7 d8 hlt d3 hM0 hM1 hms0 hms1 hob hkl F6 N6 ?_
  intro fb tf o3' h7 tk7 hfb d3' F7 N7
  have hz : (((octsOf (digit ns (at' + 4)) Z).length + (M * sec - Z).toNat : Nat) : Int) = M * sec := by rw [hkl]; omega
  have hfl : ((octsOf (digit ns (at' + 4)) Z ++ List.replicate (M * sec - Z).toNat 0).length : Int) = M * sec := by rw [List.length_append, List.length_replicate]; exact hz
  refine block_g8 (es := e0' :: e1' :: es') hd' hu B X T hW hZ0 hZ1 hS0 hS1 hc0 hc1 hl0 hl1 hP0 hP1 hPW d4 d5 d6 d7 d8 (by omega) d3' hfb (by omega) ?hbd F7 N7 ?_
  case hbd =>
    intro e he
    have hc : e.col ∈ (finCols (sizes M W P) S W P slab).drop P.toNat := by rw [← hfin, ← List.map_drop]; exact List.mem_map_of_mem he
    obtain ⟨i, hi9, hPi, hm9, hf9⟩ := mf_drop hP0 hc
    have a := first_nn hM0 hPW i (M := M) (W := W) (P := P)
    have b := size_nn hM0 hPW i (M := M) (W := W) (P := P)
    rw [← size_at _ hi9] at b
    have c := first_le hM0 hP0 hPW i hi9 hPi
    have hm8 : e.m = (sizes M W P).getD i 0 := hm9
    have hf8 : e.f = firstAt (sizes M W P) P i := hf9
    omega
  intro lw bs h8 tk8 hbs F8 N8
  have hp1 : partsOf (octsOf (digit ns (at' + 4)) Z) sec (ces.map CEnt.col) = ((mfs (sizes M W P) P).drop P.toNat).map (cutMf (octsOf (digit ns (at' + 4)) Z ++ List.replicate (M * sec - Z).toNat 0) sec) := by
    rw [hce]
    exact law_parts hM0 hP0 hPW (by omega) hz
  have hp2 : (partsOf (octsOf (digit ns (at' + 4)) Z) sec (ces.map CEnt.col)).flatten = octsOf (digit ns (at' + 4)) Z ++ List.replicate (M * sec - Z).toNat 0 := by
    rw [hp1]
    exact law_flat_all hM0 hP0 hPW (by omega) hfl
  refine block_g9 (es := e0' :: e1' :: es') hd' hu B X T hW hZ0 hZ1 hS0 hS1 hc0 hc1 hl0 hl1 hP0 hP1 hPW d4 d5 d6 d7 d8 hob (by omega) (by omega) ?hb4 ?hpw ?hfl9 ?hjo F8 N8 ?_
  case hb4 =>
    intro e he
    have hc : e.col ∈ finCols (sizes M W P) S W P slab := by rw [← hce]; exact List.mem_map_of_mem he
    obtain ⟨i, hi9, hq9⟩ := mf_mem hc
    have hm8 : e.m = (sizes M W P).getD i 0 := congrArg Prod.fst hq9
    have hf8 : e.f = if (i : Int) < P then -1 else firstAt (sizes M W P) P i := congrArg Prod.snd hq9
    have b := size_nn hM0 hPW i (M := M) (W := W) (P := P)
    rw [← size_at _ hi9] at b
    have a := first_nn hM0 hPW i (M := M) (W := W) (P := P)
    have u := size_le hM0 hM1 hP0 hPW i hi9
    have b6 : 0 ≤ e.m * sec := Int.mul_nonneg (by omega) (by omega)
    have b9 : e.m * sec ≤ 100 * 16 := Int.mul_le_mul (by omega) hc1 (by omega) (by omega)
    refine ⟨b6, by omega, fun hf => ?_⟩
    have hi8 : ¬ (i : Int) < P := by
      intro hh
      rw [if_pos hh] at hf8
      omega
    rw [if_neg hi8] at hf8
    have c := first_le hM0 hP0 hPW i hi9 (by omega)
    have b5 : 0 ≤ e.f * sec := Int.mul_nonneg hf (by omega)
    have b8 : e.f * sec ≤ 100 * 16 := Int.mul_le_mul (by omega) hc1 (by omega) (by omega)
    omega
  case hpw => rw [hp1, hbs, cut_col hfin]
  case hfl9 => rw [hp2]; omega
  case hjo =>
    rw [hp2, ← hkl, List.take_append_of_le_length (Nat.le_refl _), List.take_length]
  exact hret
end

/-! ## part T26 -/
section
local macro_rules | `(tactic| walk_at "no such place") => `(tactic| skip)
local macro_rules | `(tactic| walk_at "no such place") => `(tactic| skip)
local macro_rules | `(tactic| walk_at "no such place") => `(tactic| skip)
theorem top_off_T26 : True := by
  w_top off
  trivial
theorem tab_fields {w : World} {tb : List (Addr × Obj)} (h : TabNews w tb) : ∀ p ∈ tb, ∃ vs, p.2.data = .fields vs := by
  rcases h with rfl | ⟨c1, c2, oc1, oc2, v1, v2, t1, t2, rfl, f1, f2, f3, f4⟩
  · intro p hp; rw [List.mem_singleton.mp hp]; exact ⟨_, rfl⟩
  · intro p hp
    rcases List.mem_cons.mp hp with rfl | hp
    · exact ⟨_, rfl⟩
    rcases List.mem_cons.mp hp with rfl | hp
    · exact ⟨_, f1⟩
    · rw [List.mem_singleton.mp hp]; exact ⟨_, f3⟩
/-- what a call of the block leaves behind -/
noncomputable def BlkOut (w : World) (fs : List Addr) (h : Heap) (tb : List (Addr × Obj)) (h' : Heap) (tb' : List (Addr × Obj)) : Prop :=
  TabNews w tb' ∧ (∀ b o, b ∉ tb.map (·.1) → b ∉ fs → h.get? b = some o → h'.get? b = some o) ∧ (∀ b o, b ∉ tb.map (·.1) → h.get? b = some o → b ∈ fs → ∃ sl, h'.get? b = some { o with slots := sl }) ∧
    ∀ p ∈ tb', h'.get? p.1 = some p.2 ∧ (p.1 ∈ tb.map (·.1) ∨ h.get? p.1 = none)
theorem blk_out {w : World} {fs : List Addr} {h g g' h' : Heap} {L' : Addr} {m' : Str → Option Value} {tb tb' : List (Addr × Obj)} (eg : g = hideAll h (tb.map (·.1))) (T : KtsTurn fs g g') (_F : Fr g' L' h' m') (N : News g' L' h' tb') (ht : TabNews w tb')
    (keep : ∀ b o, g'.get? b = some o → h'.get? b = some o) : BlkOut w fs h tb h' tb' := by
  subst eg
  refine ⟨ht, fun b o n1 n2 e => keep _ _ (T.other b o (hideAll_get _ e n1) n2), fun b o n1 e hm => ?_, fun p hp => ⟨(N p hp).1, ?_⟩⟩
  · obtain ⟨sl, z⟩ := T.frame b o (hideAll_get _ e n1) hm
    exact ⟨sl, keep _ _ z⟩
  · by_cases hm : p.1 ∈ tb.map (·.1)
    · exact .inl hm
    · refine .inr ?_
      cases q : h.get? p.1 with
      | none => rfl
      | some o =>
        obtain ⟨sl, z⟩ := T.up (hideAll_get _ q hm)
        rw [(N p hp).2.2] at z
        cases z
set_option maxRecDepth 100000 in
set_option maxHeartbeats 8000000 in
theorem block_run {w : World} {p : Program} {loose : List Str} {mean : ExcName → Option Value} {mg mb : Str → Option Value} {dp un : Nat} {gd : Option (List Code)} {cn : Str} {cs : Scope} {a : Addr} {ccd : Value} {cl : List (Str × Addr)} {outer : List Env} {A₀ : Around} {base h₀ : Heap} {L : Addr} {m : Str → Option Value} {s : Shared} {l : Addr} {at' : Int} {t : Tok} {tb : List (Addr × Obj)} {xs : List Value} {ns : List Int} {Q E : Value → Shared → Prop}
    (h0 : 0 ≤ at') (h1 : at' ≤ 25) (h2 : ns.length ≤ 63) (hl : s.heap.IsList l xs.toArray) (hi : IntsAre xs ns)
    (B : Below A₀ base outer h₀) (F : Fr h₀ L s.heap m) (N : News h₀ L s.heap tb) (htb : TabNews w tb) (X : (hd.heap_39 w.params).In h₀) (T : Top p loose mean mg mb h₀) (XB : (hd.heap_39 w.params).In base) (TB : Top p loose mean mg mb base) (CB : CodeHd base 175 173)
    (hk : cs.kind = .function) (hd' : dp + 20 < recursionLimit) (hu : un + 200 < cLine)
    (hret : ∀ h' tk' tb', BlkOut w (L :: outer.filterMap (·.frame)) s.heap tb h' tb' → Q (.bool true) { s with heap := h', toks := tk' }) :
    wpAny (model PySem.Challenge.rw_np0177_01.row.prog w) (ktrTop dp un gd cn cs L a ccd cl outer) (call (.ref 176) [.ref l, .int at' t]) Q E s := by
  have hlb : l ∉ tb.map (·.1) := by
    intro hm
    obtain ⟨p, hp, e⟩ := List.mem_map.mp hm
    obtain ⟨vs, hv⟩ := tab_fields htb p hp
    obtain ⟨o, ho, _, n, hdd⟩ := hl
    have := (N p hp).1
    rw [e, ho] at this
    cases this
    rw [hdd] at hv
    cases hv
  refine block_enter B F N X T hk hd' ?_
  intro g L' h₁ tk o1 o2 o3 o4 o5 o6 o7 o8 eg F' N' lt' d1 d2 d3 d4 d5 d6 d7 d8 B' X' T'
  have hlg : g.IsList l xs.toArray := by
    obtain ⟨o, ho, r⟩ := hl
    exact ⟨o, by rw [eg]; exact hideAll_get _ ho hlb, r⟩
  refine block_head1 h0 h1 h2 hlg hi lt' hd' hu d1 d2 B' X' T' F' N' d3 d4 d5 d6 d7 d8 ?_
  intro W Z P S tW tZ tP tS vx o4' o5' o7' o8' h₂ tk₂ hW0 hW1 hZ0 hZ1 hS0 hS1 d4' d5' d7' d8' F₂ N₂
  refine block_head2 h0 h1 h2 hlg hi lt' hd' hu d1 d2 B' X' T' F₂ N₂ d6 ?_
  intro sec slab sh d t1 t2 ts us o6' h₃ tk₃ hc0 hc1 hl0 hl1 d6' F₃ N₃
  refine block_if hk hd' hu CB B' X' T' XB TB d4' d5' d6' d7' d8' lt' htb F₃ N₃ ?_ ?_
  · intro g' h' tk' m' tb' K₄ F₄ N₄ ht₄
    exact ⟨g', L', m', tb', K₄, F₄, N₄, fun keep => hret h' tk' tb' (blk_out eg K₄ F₄ N₄ ht₄ keep)⟩
  · intro h₄ tk₄ hP0 hP1 hPW F₄ N₄
    refine block_good hd' hu B' X' T' hW1 hZ0 hZ1 hS0 hS1 hc0 hc1 hl0 hl1 hP0 hP1 hPW d4' d5' d6' d7' d8' h0 h1 h2 hlg hi d1 d2 d3 lt' F₄ N₄ ?_
    intro h' tk' m' F₅ N₅
    exact ⟨g, L', m', tb, KtsTurn.refl, F₅, N₅, fun keep => hret h' tk' tb (blk_out eg KtsTurn.refl F₅ N₅ htb keep)⟩
end

/-! ## part T27 -/
section
local macro_rules | `(tactic| walk_at "no such place") => `(tactic| skip)
local macro_rules | `(tactic| walk_at "no such place") => `(tactic| skip)
local macro_rules | `(tactic| walk_at "no such place") => `(tactic| skip)
local macro_rules | `(tactic| walk_at "no such place") => `(tactic| skip)
local macro_rules | `(tactic| walk_at "no such place") => `(tactic| skip)
theorem top_off_T27 : True := by
  w_top off
  trivial
set_option hygiene false
noncomputable abbrev kStored : List Str := [Str.ofString "k"]
noncomputable def LawJ (w : World) (I D : Addr) (ws : List Value) (m₀ : Str → Option Value) (_i : Nat) (m : Str → Option Value) (news : List (Addr × Obj)) : Prop :=
  ∃ tb, TabNews w tb ∧ (∀ p ∈ tb, @Ne Nat p.1 I ∧ @Ne Nat p.1 D) ∧ news = (D, listOf ws.toArray 0) :: tb ∧ ∀ z, kStored.contains z = false → m z = m₀ z
theorem k_off {z : Str} (h : kStored.contains z = false) : z ≠ Str.ofString "k" := by
  simp only [kStored, List.contains_cons, Bool.or_eq_false_iff, beq_eq_false_iff_ne, ne_eq] at h
  exact h.1
/-- behind a call of the block nothing but the frame's slots and the table of codes has turned -/
theorem law_back {w : World} {h₀ h h' : Heap} {L : Addr} {m : Str → Option Value} {tb tb' a : List (Addr × Obj)} (O : BlkOut w [L] h tb h' tb') (F : Fr h₀ L h m) (N : News h₀ L h (a ++ tb)) (off : ∀ p ∈ a, p.1 ∉ tb.map (·.1)) :
    Fr h₀ L h' m ∧ News h₀ L h' (a ++ tb') := by
  obtain ⟨_, o1, o2, o3⟩ := O
  have hL : h₀.get? L = none := kts_self F
  have tbn : ∀ x ∈ tb.map (·.1), h₀.get? x = none ∧ x ≠ L := fun x hx => by
    obtain ⟨p, hp, rfl⟩ := List.mem_map.mp hx
    exact ⟨(N p (List.mem_append.mpr (.inr hp))).2.2, (N p (List.mem_append.mpr (.inr hp))).2.1⟩
  have hLt : L ∉ tb.map (·.1) := fun hm => (tbn L hm).2 rfl
  obtain ⟨oL, es, ep, hoL, hLd, hLk, hLf⟩ := F.ns
  obtain ⟨sl, hs⟩ := o2 L oL hLt hoL (.head _)
  refine ⟨⟨⟨_, es, ep, hs, hLd, hLk, hLf⟩, fun b o e => o1 b o (fun hm => ?_) (fun hm => ?_) (F.keep b o e), F.above⟩, fun p hp => ?_⟩
  · rw [(tbn b hm).1] at e; cases e
  · rw [List.mem_singleton.mp hm, hL] at e; cases e
  · rcases List.mem_append.mp hp with hp | hp
    · have z := N p (List.mem_append.mpr (.inl hp))
      exact ⟨o1 _ _ (off p hp) (fun hm => z.2.1 (List.mem_singleton.mp hm)) z.1, z.2⟩
    · obtain ⟨g1, g2⟩ := o3 p hp
      refine ⟨g1, ?_⟩
      rcases g2 with g2 | g2
      · exact ⟨(tbn _ g2).2, (tbn _ g2).1⟩
      · refine ⟨fun e => ?_, ?_⟩
        · rw [e, hoL] at g2; cases g2
        · cases q : h₀.get? p.1 with
          | none => rfl
          | some o => rw [F.keep _ _ q] at g2; cases g2
local macro_rules | `(tactic| walk_at "exec For Name Call cons nil") => `(tactic| (k_here; (rename Fr _ _ _ _ => lF'); (with_unfolding_all refine' For_turns lF' ?_; k_whole)))
local macro_rules | `(tactic| walk_at "pyIter ref") => `(tactic| (k_here; (refine stop_of ?_)))
local macro_rules | `(tactic| walk_at "call ref") => `(tactic| (k_here; (with_reducible show wpAny _ _ (call (Value.ref 176) _) _ _ _); (refine stop_of ?_)))
set_option maxRecDepth 100000 in
set_option maxHeartbeats 8000000 in
theorem law_holds : PySem.Challenge.rw_np0177_01.Holds := hd.2.2 hd_left (by
  delta hd
  k_go0
  (all_goals try k_fold)
  rename World => w
  k_steps
  unfold Stop
  rename Below _ _ _ _ => B9
  rename Frag.In _ _ => X9
  rename Top _ _ _ _ _ (ghostOf _ _) => T9
  rename IntsAre _ (List.take 63 _) => hI9
  rename Fr _ _ _ _ => F9
  rename News _ _ _ _ => N9
  rename IsRange _ _ _ _ _ _ _ _ => R9
  rename (_ : Addr) < _ => hD9
  obtain ⟨b, hb0, hb1, R8⟩ : ∃ b : Int, 2 ≤ b ∧ b ≤ 6 ∧ IsRange _ _ 0 b 1 _ _ _ := ⟨_, by (repeat' split) <;> omega, by (repeat' split) <;> omega, R9⟩
  clear R9
  obtain ⟨n, hn, hn6⟩ : ∃ n : Nat, Builtin.Range.rangeSize 0 b 1 = (n : Int) ∧ n ≤ 6 := ⟨_, rangeSize_nat _ _, by omega⟩
  with_unfolding_all refine range_turns (n := n) (by rfl) R8 (small_one (by decide) (by decide) (by omega) (by omega)) hn F9 N9 fun I hI => ?_
  refine items_ind (LawJ w I _ _ _) ⟨_, .inl rfl, fun p hp => by rw [List.mem_singleton.mp hp]; exact ⟨Nat.ne_of_lt (hI _ (.tail _ (.head _))), Nat.ne_of_lt hD9⟩, rfl, fun _ _ => rfl⟩ ?turn ?done
  case turn =>
    rintro i a m news v h tk hx hv ⟨tb, htb, hap, rfl, hm⟩ F8
    have hi : i < n := by
      rcases Nat.lt_or_ge i n with h | h
      · exact h
      · rw [List.getElem?_eq_none (by simpa [rangeItems] using h)] at hx; cases hx
    have hx' : (rangeItems 0 n)[i]? = some (Itm.tok fun t => .int (0 + (i : Int)) t) := by simp [rangeItems, hi]
    rw [hx'] at hx
    cases hx
    obtain ⟨t, rfl⟩ := hv
    rw [fr_none hm] at F8
    refine AllObj.cons fun o ho => AllObj.nil fun N8 => ?_
    clear F9 N9 R8
    dsimp only
    k_steps
    unfold Stop
    clear F8 N8
    rename News _ _ _ _ => N7
    rename Fr _ _ _ _ => F7
    have hlen := List.length_take_le 63 ‹List Int›
    refine block_run (tb := tb) (by omega) (by omega) (by rw [List.length_take]; omega) (News.isList N7 (.tail _ (.head _))) hI9 B9 F7 (fun p hp => N7 p (List.mem_append.mpr (.inr (.tail _ hp)))) htb X9 T9 X9 T9 codeHd rfl ?dd9 ?uu9 ?_
    case dd9 => ktr_room
    case uu9 => ktr_units
    intro h9 tk9 tb9 O9
    have O8 := O9
    obtain ⟨F6, N6⟩ := law_back (a := [(I, o), (_, listOf _ 0)]) O9 F7 N7 (fun p hp hm9 => by
      obtain ⟨q, hq, e⟩ := List.mem_map.mp hm9
      rcases List.mem_cons.mp hp with rfl | hp
      · exact (hap q hq).1 e
      · rw [List.mem_singleton.mp hp] at e; exact (hap q hq).2 e)
    obtain ⟨ht9, _, _, hf9⟩ := O8
    have hap9 : ∀ p ∈ tb9, @Ne Nat p.1 I ∧ @Ne Nat p.1 _ := fun p hp => by
      rcases (hf9 p hp).2 with z | z
      · obtain ⟨q, hq, e⟩ := List.mem_map.mp z
        rw [← e]
        exact hap q hq
      · refine ⟨fun e => ?_, fun e => ?_⟩
        · have y := (N7 _ (.head _)).1
          rw [← e, z] at y; cases y
        · have y := (N7 _ (.tail _ (.head _))).1
          rw [← e, z] at y; cases y
    clear F7 N7 O9 hf9
    k_steps
    refine ⟨_, _, _, _ :: tb9, rfl, F6, N6, fun p hp q hq => ?_, trivial, tb9, ht9, hap9, rfl, fun z hz => ?_⟩
    · rw [List.mem_singleton.mp hq]
      rcases List.mem_cons.mp hp with rfl | hp
      · exact Nat.ne_of_lt (hI _ (.head _))
      · exact (hap9 p hp).1
    · have hz1 := k_off hz
      simp only [if_neg hz1, hz, Bool.false_eq_true, if_false]
      try rfl
  case done =>
    rintro m news h tk ⟨tb, htb, hap, rfl, hm⟩ F8 N8
    clear F9 N9 R8
    rw [fr_none hm] at F8
    dsimp only
    rcases htb with rfl | ⟨c1, c2, oc1, oc2, v1, v2, t1, t2, rfl, f1, f2, f3, f4⟩
    · k_steps
    · k_steps)
end
end Mine

theorem PySem.Challenge.cw_np0177_01_holds : PySem.Challenge.rw_np0177_01.Holds := by
  exact Mine.law_holds
