import PyProof.Rows.All
import Wide.All
import OpenK.AllK
import Wide.FinOn
import PySem.Challenge.RW_nz0213_01
set_option Elab.async false
set_option rowWalk.seconds 0
section
local macro_rules | `(tactic| k_all) => `(tactic| assumption)
local macro_rules | `(tactic| tb_start) => `(tactic| k_extra "my tb_start")
local macro_rules | `(tactic| walk_at "LeaveS0") => `(tactic| k_extra "my LeaveS0")
local macro_rules | `(tactic| walk_at "RaiseRest") => `(tactic| k_extra "my RaiseRest")
local macro_rules | `(tactic| walk_at "call builtin:ValueError.__init__") => `(tactic| k_extra "my call builtin:ValueError.__init__")
local macro_rules | `(tactic| walk_at "call builtin:len") => `(tactic| k_extra "my call builtin:len")
local macro_rules | `(tactic| walk_at "call builtin:list.append") => `(tactic| k_extra "my call builtin:list.append")
local macro_rules | `(tactic| walk_at "call builtin:str.join") => `(tactic| k_extra "my call builtin:str.join")
local macro_rules | `(tactic| walk_at "call ref") => `(tactic| k_extra "my call ref")
local macro_rules | `(tactic| walk_at "call type:enumerate") => `(tactic| k_extra "my call type:enumerate")
local macro_rules | `(tactic| walk_at "compareOp Eq ref ref") => `(tactic| k_extra "my compareOp Eq ref ref")
local macro_rules | `(tactic| walk_at "compareOp In str str") => `(tactic| k_extra "my compareOp In str str")
local macro_rules | `(tactic| walk_at "compareOp NotIn str str") => `(tactic| k_extra "my compareOp NotIn str str")
local macro_rules | `(tactic| walk_at "exec For") => `(tactic| k_extra "my exec For")
local macro_rules | `(tactic| walk_at "exec For Tuple Call cons nil") => `(tactic| k_extra "my exec For Tuple Call cons nil")
local macro_rules | `(tactic| walk_at "exec Raise some none") => `(tactic| k_extra "my exec Raise some none")
local macro_rules | `(tactic| walk_at "exec While BoolOp cons nil") => `(tactic| k_extra "my exec While BoolOp cons nil")
local macro_rules | `(tactic| walk_at "exec While Call cons nil") => `(tactic| k_extra "my exec While Call cons nil")
local macro_rules | `(tactic| walk_at "execs cons Assign cons") => `(tactic| k_extra "my execs cons Assign cons")
local macro_rules | `(tactic| walk_at "getMethod type:ValueError") => `(tactic| k_extra "my getMethod type:ValueError")
local macro_rules | `(tactic| walk_at "last subscriptTail") => `(tactic| k_extra "my last subscriptTail")
local macro_rules | `(tactic| walk_at "pyIter ref") => `(tactic| k_extra "my pyIter ref")
local macro_rules | `(tactic| walk_at "setAttr ref") => `(tactic| k_extra "my setAttr ref")
local macro_rules | `(tactic| walk_at "subscriptTail Attribute Name Attribute Name str int") => `(tactic| k_extra "my subscriptTail Attribute Name Attribute Name str int")
/-! Hd -/
section
open PySem PySem.W PySem.Calls PyProof.Rows
namespace Mine
set_option maxRecDepth 1000000
set_option maxHeartbeats 8000000

/-- the top's run, over a tree of objects -/
def topT (stp : SharedT → Thread → Option (SharedT × Thread)) (ok : Thread → Bool) : Nat → SharedT → Thread → Option SharedT
  | 0, _, _ => none
  | n + 1, s, t => match through t with
    | true => some s
    | false => match ok t with
      | false => none
      | true => match stp s t with
        | some (s', t') => topT stp ok n s' t'
        | none => none
theorem topT_of {tb : String → Option Builtin} {p : Program} {w : World} {n₀ : Nat} {ann : Option Value} : ∀ {n : Nat} {s s' : SharedT} {t : Thread},
    topT (stepT (denote tb) p w) (stepOk n₀ ann) n s t = some s' → topRun tb p w n₀ ann n s.abs t = some s'.abs
  | 0, _, _, _, h => by cases h
  | n + 1, s, s', t, h => by
    unfold topT at h
    unfold topRun
    cases ht : through t with
    | true => rw [ht] at h; cases h; rfl
    | false =>
      rw [ht] at h
      cases hk : stepOk n₀ ann t with
      | false => rw [hk] at h; cases h
      | true =>
        rw [hk] at h
        cases hs : stepT (denote tb) p w s t with
        | none => rw [hs] at h; cases h
        | some r => obtain ⟨s₂, t₂⟩ := r; rw [hs] at h; dsimp only; rw [stepT_spec hs]; exact topT_of h
def mkT : Nat → BT → List Obj → BT
  | _, t, [] => t
  | n, t, o :: l => mkT (n + 1) (t.ins n o) l
noncomputable def s0T (w : World) (os : OsState) : SharedT := ⟨mkT 0 .nil (boot_heap w.params).objs.toList, 11, (boot_heap w.params).life, Array.mk [], boot_drawn, boot_toks, os⟩
theorem s0T_heap : ∀ w : World, absHeap (mkT 0 .nil (boot_heap w.params).objs.toList) 11 (boot_heap w.params).life = boot_heap w.params := fun w => by kernel_rfl
theorem s0T_abs (w : World) (os : OsState) : (s0T w os).abs = ⟨boot_heap w.params, Array.mk [], boot_drawn, boot_toks, os⟩ := by
  unfold s0T SharedT.abs
  rw [s0T_heap w]
theorem boot_size : ∀ w : World, ((boot_heap w.params).isNs mainGlobals && (Array.mk [] : Array GenState).size == 0, (boot_heap w.params).objs.size, (boot_heap w.params).nsMap mainGlobals "__annotations__") = (true, 11, some (.ref 6)) := fun w => by kernel_rfl

theorem left_two {p q : Program} {loose : List Str} {Xt : Shared → Bool} {α : Type} {Yf : Shared → α} {Ya : World → α} {N : Nat} {g0 : Bool} (M : Nat)
    (open_ : ∀ w : World, (fencedOpening treeTable p w N).map (fun s => (s.heap, s.gens, s.drawn, s.toks)) = some (boot_heap w.params, Array.mk [], boot_drawn, boot_toks))
    (le : Nat.ble M N = true)
    (looks : ∀ (w : World) (os : OsState), (topT (stepT (denote treeTable) p w) (stepOk 11 (some (.ref 6))) M (s0T w os) (topStub p)).map (fun s => openSeen q loose (importedModules p.main.body) Xt g0 s.abs) = some (openGood q loose))
    (run : ∀ (w : World) (os : OsState), (topT (stepT (denote treeTable) p w) (stepOk 11 (some (.ref 6))) M (s0T w os) (topStub p)).map (fun s =>
        ((staticsOk (importedModules p.main.body) (boot_heap w.params) s.abs.heap && namesBound p s.abs.heap && gensDone s.abs && laidKept (boot_heap w.params) s.abs.heap), Yf s.abs)) = some (true, Ya w)) : LeftO p q loose Xt Yf Ya N g0 := fun w => by
  obtain ⟨⟨h, gs, d, k, os⟩, e, e'⟩ := Option.map_eq_some_iff.mp (open_ w)
  obtain ⟨rfl, rfl, rfl, rfl⟩ : h = boot_heap w.params ∧ gs = Array.mk [] ∧ d = boot_drawn ∧ k = boot_toks := by simpa using e'
  obtain ⟨s', r0, l⟩ := Option.map_eq_some_iff.mp (run w os)
  obtain ⟨l1, l3⟩ : _ ∧ _ := by simpa only [Prod.mk.injEq] using l
  have l2 := looks w os
  rw [r0] at l2
  replace l2 := Option.some.inj l2
  obtain ⟨z1, z2, z3⟩ : _ ∧ _ ∧ _ := by simpa only [Prod.mk.injEq] using boot_size w
  have r := topRun_mono (N - M) _ _ _ _ (topT_of r0)
  rw [s0T_abs, show M + (N - M) = N by have := Nat.le_of_ble_eq_true le; omega] at r
  have t : topFrom treeTable p w N ⟨boot_heap w.params, Array.mk [], boot_drawn, boot_toks, os⟩ = some s'.abs := by
    unfold topFrom
    dsimp only
    rw [z1, z2, z3, r]
    show (match staticsOk (importedModules p.main.body) (boot_heap w.params) s'.abs.heap && namesBound p s'.abs.heap && gensDone s'.abs && laidKept (boot_heap w.params) s'.abs.heap with | true => _ | false => _) = _
    rw [l1]
  unfold openEnds
  rw [e]
  show (topFrom treeTable p w N _).map _ = _
  rw [t]
  exact congrArg some (Prod.ext l2 l3)
abbrev pw : Program := PySem.Challenge.rw_nz0213_01.row.prog
noncomputable def vw : Program := PySem.W.view pw [1, 2, 3, 5, 6, 7, 8, 9, 10, 11, 12, 13, 14, 15, 16, 17, 18, 19, 20, 21, 22, 23, 24, 25, 26, 28, 29, 30, 31, 32, 33, 34, 35, 36, 37]
theorem pw_open : ∀ w : World, (fencedOpening treeTable pw w 5394).map (fun s => (s.heap, s.gens, s.drawn, s.toks)) = some (boot_heap w.params, Array.mk [], boot_drawn, boot_toks) :=
  boot_open (by kernel_rfl) rfl (fun s => by kernel_rfl)
theorem said_ : PySem.Challenge.rw_nz0213_01.wellSaid = true := by decide +kernel
theorem top_looks : ∀ (w : World) (os : OsState), (topT (stepT (denote treeTable) pw w) (stepOk 11 (some (.ref 6))) 2900 (s0T w os) (topStub pw)).map (fun s => openSeen vw [PySem.Str.ofString "BoardError"] (importedModules pw.main.body)
    (fun s => xlAt vw [] s && recOk (RowW.records (OpenRow.toRowW PySem.Challenge.rw_nz0213_01.row)) s) true s.abs) = some (openGood vw [PySem.Str.ofString "BoardError"]) := fun w os => by
  rw [PySem.W.Fast.te10156331382660048174, PySem.W.Fast.te11892475500146522536, PySem.W.Fast.te14364793385576792824, PySem.W.Fast.te6613529449190102663]
  kernel_rfl
section
set_option hygiene false
local macro_rules | `(tactic| k_qdec) => `(tactic| decide +kernel)
local macro_rules | `(tactic| o_law) => `(tactic| refine holds_law said_ fun said => ?_)
local macro_rules | `(tactic| o_head $H) => `(tactic| refine holds_open (r := PySem.Challenge.rw_nz0213_01.row) (q := vw) (loose := [PySem.Str.ofString "BoardError"]) (Xt := fun s => xlAt vw [] s && recOk (RowW.records (OpenRow.toRowW PySem.Challenge.rw_nz0213_01.row)) s) (XP := XL vw []) (Yf := Hook.obs $H) (Ya := Hook.val $H) (YP := Hook.says $H) (N := 5394) (left_two 2900 pw_open rfl top_looks (fun w os => by rw [PySem.W.Fast.te10156331382660048174, PySem.W.Fast.te11892475500146522536, PySem.W.Fast.te14364793385576792824, PySem.W.Fast.te6613529449190102663]; kernel_rfl)) (Hook.of $H) (Hook.keeps $H) (fun s e => xl_of s (Bool.and_eq_true_iff.mp e).1) XL.keeps (by rfl) (by rfl) (by rfl) (fun s e => recFacts_of (Bool.and_eq_true_iff.mp e).2) (by rfl) (by assumption) (by decide +kernel) ⟨rfl, rfl, rfl, rfl, rfl, by decide +kernel⟩ ?hw ?hc)
open_top hd for PySem.Challenge.rw_nz0213_01
end
end Mine
end
/-! NzBase -/
section
open PySem PySem.W PySem.Spec PySem.Calls PyProof.Rows
namespace Mine
set_option maxRecDepth 100000
set_option maxHeartbeats 8000000

theorem fill_it : (fun (_ : PySem.W.OpenLaw) (_ : Params → Frag) => True) PySem.Challenge.rw_nz0213_01 hd.heap_1 := by
  k_fill
  trivial

abbrev Pg : Program := PySem.Challenge.rw_nz0213_01.row.prog
abbrev TopW (mean : ExcName → Option Value) (mg mb : Str → Option Value) (h : Heap) : Prop :=
  Top vw (looseW vw [PySem.Str.ofString "BoardError"]) mean mg mb h
noncomputable abbrev KW (w : World) : Frag := hd.heap_1 w.params

def RaisedX (base G : Heap) (l : List Env) (e : Addr) (cls : Value) (h : Heap) : Prop :=
  ∃ B a0, base.StaysIn B ∧ (∀ b o, G.get? b = some o → b ∉ l.filterMap (·.frame) → B.get? b = some o) ∧ Heap.FlyingW B l e cls a0 h

section
variable {M : Model} {A : Around} {E : Value → Shared → Prop} {s' : Shared} {base g g₂ h : Heap} {outer : List Env} {L a e t : Addr} {m : Str → Option Value} {name : Str} {scope : Scope} {cd : Value} {Q : Unit → Shared → Prop} {news : List (Addr × Obj)}

theorem leave_onX {cls : Value} (K : Below A base outer g) (F : Fr g L g₂ m) (R : RaisedX base g₂ (envOf name scope L a cd :: outer) e cls s'.heap) (hsm : g₂.UpToSlots s'.heap)
    (hQ : ∀ h', RaisedX base g outer e cls h' → g.UpToSlots h' → Q () { s' with heap := h' }) :
    wpAny M (A.deeper (envOf name scope L a cd)) (leaving (envOf name scope L a cd) (.ref e)) Q E s' := by
  obtain ⟨B, a0, hB, hBG, hfl⟩ := R
  exact wpAny_leaves_onW (Around.frames_deeper K.stack) rfl hfl fun h' x1 x2 =>
    hQ h' ⟨B, a0, hB, fun b o q nm => hBG b o (F.keep b o q) (fun hm => by
      rcases kts_mem hm with z | z
      · rw [z, kts_self F] at q
        cases q
      · exact nm z), x1⟩ ((Heap.UpToSlots.of_keeps F.keep).trans (hsm.trans x2))

theorem leave_raiseX {oe : Obj} {vs : Array Value} {a0 : Value} (K : Below A base outer g) (F : Fr g L s'.heap m) (N : News g L s'.heap news) (he : (e, oe) ∈ news) (hd : oe.data = .fields vs) (h0 : vs[0]? = some a0) (h1 : vs[1]? = some .none)
    (hQ : ∀ h', RaisedX base g outer e oe.cls h' → g.UpToSlots h' → Q () { s' with heap := h' }) (hk : scope.kind = .function := by rfl) :
    wpAny M (A.deeper (envOf name scope L a cd)) (leaving (envOf name scope L a cd) (.ref e)) Q E s' := by
  have K' := K.push (name := name) (a := a) (cd := cd) F hk
  have hin : ∀ env ∈ (envOf name scope L a cd :: outer), ∀ b, env.frame = some b → b ∈ e :: (envOf name scope L a cd :: outer).filterMap (·.frame) := fun env he b hb => .tail _ (List.mem_filterMap.mpr ⟨env, he, hb⟩)
  have hge := (N _ he).2.2
  have st : base.StaysIn (hideAll s'.heap (e :: (envOf name scope L a cd :: outer).filterMap (·.frame))) := fun b o q => hideAll_get _ (K'.stays b o q) fun hm => by
    rcases List.mem_cons.mp hm with rfl | hm
    · have := K.stays _ _ q; rw [hge] at this; cases this
    · rw [(K'.frames.mem hm).1] at q; cases q
  have sg : ∀ b o, g.get? b = some o → b ∉ outer.filterMap (·.frame) → (hideAll s'.heap (e :: (envOf name scope L a cd :: outer).filterMap (·.frame))).get? b = some o := fun b o q nm => hideAll_get _ (F.keep b o q) fun hm => by
    rcases List.mem_cons.mp hm with rfl | hm
    · rw [hge] at q; cases q
    · rcases kts_mem hm with z | z
      · rw [z, kts_self F] at q
        cases q
      · exact nm z
  have hen : (hideAll s'.heap (e :: (envOf name scope L a cd :: outer).filterMap (·.frame))).get? e = none := hideAll_none _ (.head _)
  refine wpAny_leaving_firstW (base := hideAll s'.heap (e :: (envOf name scope L a cd :: outer).filterMap (·.frame))) (a0 := a0) K'.stack (funFrames_hide K'.frames hin) rfl (N _ he).1 (fun b o hb => of_hideAll _ hb) hen hd h1 h0 fun h' hL => ?_
  obtain ⟨k1, ⟨_, _, k2⟩, k3, k4⟩ := hL
  exact hQ h' ⟨_, a0, st, sg, k1, hen, k2, k3⟩ ((Heap.UpToSlots.of_keeps F.keep).trans k4)
end

/-- what a call does to the ledger -/
def Con (w : World) (mean : ExcName → Option Value) (mg mb : Str → Option Value) (f : Addr) (args : List Value) (news : List (Addr × Obj)) (nd nu : Nat)
    (Post : Value → List (Addr × Obj) → Prop) (Exc : Value → Prop) : Prop :=
  ∀ (dp un : Nat) (gd : Option (List Code)) (cn : Str) (cs : Scope) (a : Addr) (ccd : Value) (cl : List (Str × Addr)) (outer : List Env) (A₀ : Around) (base h₀ : Heap) (L : Addr) (m : Str → Option Value) (s : Shared)
    (Q E : Value → Shared → Prop),
    Below A₀ base outer h₀ → Fr h₀ L s.heap m → (hd.heap_1 w.params).In h₀ → News h₀ L s.heap news → TopW mean mg mb h₀ → cs.kind = .function → dp + nd < recursionLimit → un + nu < cLine →
    (∀ r news' h' tk', Fr h₀ L h' m → News h₀ L h' news' → Post r news' → Q r { s with heap := h', toks := tk' }) →
    (∀ cls, Exc cls → ∀ e g h' tk', RaisedX base g (envX cn cs L a ccd cl :: outer) e cls h' → Fr h₀ L g m → g.UpToSlots h' → E (.ref e) { s with heap := h', toks := tk' }) →
    wpAny (model Pg w) (ktrTop dp un gd cn cs L a ccd cl outer) (call (.ref f) args) Q E s

theorem con_use {w : World} {mean : ExcName → Option Value} {mg mb : Str → Option Value} {f : Addr} {args : List Value} {news0 news : List (Addr × Obj)} {nd nu : Nat}
    {Post : Value → List (Addr × Obj) → Prop} {Exc : Value → Prop} (C : Con w mean mg mb f args news nd nu Post Exc)
    {dp un : Nat} {gd : Option (List Code)} {cn : Str} {cs : Scope} {a : Addr} {ccd : Value} {cl : List (Str × Addr)} {outer : List Env} {A₀ : Around} {base h₀ : Heap} {L : Addr} {m : Str → Option Value} {s : Shared}
    {Q E : Value → Shared → Prop}
    (B : Below A₀ base outer h₀) (F : Fr h₀ L s.heap m) (X : (hd.heap_1 w.params).In h₀) (N : News h₀ L s.heap news0) (T : TopW mean mg mb h₀) (hk : cs.kind = .function)
    (hsub : ∀ p ∈ news, p ∈ news0) (hd : dp + nd < recursionLimit) (hu : un + nu < cLine)
    (ret : ∀ r news' h' tk', Fr h₀ L h' m → News h₀ L h' news' → Post r news' → Q r { s with heap := h', toks := tk' })
    (exc : ∀ cls, Exc cls → ∀ e g h' tk', RaisedX base g (envX cn cs L a ccd cl :: outer) e cls h' → Fr h₀ L g m → g.UpToSlots h' → E (.ref e) { s with heap := h', toks := tk' }) :
    wpAny (model Pg w) (ktrTop dp un gd cn cs L a ccd cl outer) (call (.ref f) args) Q E s :=
  C dp un gd cn cs a ccd cl outer A₀ base h₀ L m s Q E B F X (fun p hp => N p (hsub p hp)) T hk hd hu ret exc

theorem con_go {w : World} {mean : ExcName → Option Value} {mg mb : Str → Option Value} {f : Addr} {args : List Value} {news0 news : List (Addr × Obj)} {nd nu : Nat}
    {Post : Value → List (Addr × Obj) → Prop} {Exc : Value → Prop}
    {dp un : Nat} {gd : Option (List Code)} {cn : Str} {cs : Scope} {a : Addr} {ccd : Value} {cl : List (Str × Addr)} {outer : List Env} {A₀ : Around} {base h₀ : Heap} {L : Addr} {m : Str → Option Value} {s : Shared}
    {Q E : Value → Shared → Prop}
    (N : News h₀ L s.heap news0) (hsub : ∀ p ∈ news, p ∈ news0) (B : Below A₀ base outer h₀) (F : Fr h₀ L s.heap m) (X : (hd.heap_1 w.params).In h₀) (T : TopW mean mg mb h₀) (hk : cs.kind = .function)
    (C : Con w mean mg mb f args news nd nu Post Exc) (hdp : dp + nd < recursionLimit) (hun : un + nu < cLine)
    (exc : ∀ cls, Exc cls → ∀ e g h' tk', RaisedX base g (envX cn cs L a ccd cl :: outer) e cls h' → Fr h₀ L g m → g.UpToSlots h' → E (.ref e) { s with heap := h', toks := tk' })
    (ret : ∀ r news' h' tk', Fr h₀ L h' m → News h₀ L h' news' → Post r news' → Q r { s with heap := h', toks := tk' }) :
    wpAny (model Pg w) (ktrTop dp un gd cn cs L a ccd cl outer) (call (.ref f) args) Q E s :=
  con_use C B F X N T hk hsub hdp hun ret exc

theorem con_mono {w : World} {mean : ExcName → Option Value} {mg mb : Str → Option Value} {f : Addr} {args : List Value} {news : List (Addr × Obj)} {nd nu nd' nu' : Nat}
    {Post Post' : Value → List (Addr × Obj) → Prop} {Exc Exc' : Value → Prop} (C : Con w mean mg mb f args news nd nu Post Exc) (h1 : nd ≤ nd') (h2 : nu ≤ nu')
    (hP : ∀ r n, Post r n → ∃ n', (∀ p ∈ n', p ∈ n) ∧ Post' r n') (hE : ∀ c, Exc c → Exc' c) : Con w mean mg mb f args news nd' nu' Post' Exc' := by
  intro dp un gd cn cs a ccd cl outer A₀ base h₀ L m s Q E B F X N TT hk hdp hun ret exc
  refine C dp un gd cn cs a ccd cl outer A₀ base h₀ L m s Q E B F X N TT hk (Nat.lt_of_le_of_lt (Nat.add_le_add_left h1 _) hdp) (Nat.lt_of_le_of_lt (Nat.add_le_add_left h2 _) hun) (fun r n' h' tk' F' N' hp => ?_) fun c hc => exc c (hE c hc)
  obtain ⟨n2, hs, hp2⟩ := hP r n' hp
  exact ret r n2 h' tk' F' (fun p hp => N' p (hs p hp)) hp2

def NoExc : Value → Prop := fun _ => False

theorem whl_inv {prog : Program} {w : World} {A : Around} {E : Value → Shared → Prop} {env : Env} {test : PySem.Expr} {body orelse : List Stmt} {Q : Flow → Shared → Prop}
  {g : Heap} {L : Addr} {m0 : Str → Option Value} {news0 : List (Addr × Obj)} {s : Shared} (F : Fr g L s.heap m0) (N : News g L s.heap news0)
  (J : Nat → (Str → Option Value) → List (Addr × Obj) → Prop) {n0 : Nat} (h0 : J n0 m0 news0)
  (step : ∀ n m news h tk, Fr g L h m → News g L h news → J n m news →
     (∀ n' m' news' h' tk', n' < n → Fr g L h' m' → News g L h' news' → J n' m' news' → WhlRest prog w A E env test body orelse Q 0 { s with heap := h', toks := tk' }) →
     WhlRest prog w A E env test body orelse Q 1 { s with heap := h, toks := tk }) : WhlRest prog w A E env test body orelse Q 0 s := by
  have all : ∀ n, ∀ n' m' news' h' tk', n' < n → Fr g L h' m' → News g L h' news' → J n' m' news' → WhlRest prog w A E env test body orelse Q 0 { s with heap := h', toks := tk' } := by
    intro n
    induction n with
    | zero => intro n' _ _ _ _ h; exact absurd h (Nat.not_lt_zero _)
    | succ n ih =>
      intro n' m' news' h' tk' hn F' N' hJ
      exact step n' m' news' h' tk' F' N' hJ fun n'' m'' news'' h'' tk'' hn'' => ih n'' m'' news'' h'' tk'' (Nat.lt_of_lt_of_le hn'' (Nat.le_of_lt_succ hn))
  exact all (n0+1) n0 m0 news0 s.heap s.toks (Nat.lt_succ_self _) F N h0

def WhlNext (R : Shared → Prop) (Q : Flow → Shared → Prop) (f : Flow) (s : Shared) : Prop :=
  match f with
  | .next => R s
  | .cont => R s
  | .brk => Q .next s
  | .ret v => Q (.ret v) s

theorem whl_inv2 {prog : Program} {w : World} {A : Around} {E : Value → Shared → Prop} {env : Env} {test : PySem.Expr} {body orelse : List Stmt} {pos : Pos} {Q : Flow → Shared → Prop}
  {g : Heap} {L : Addr} {m0 : Str → Option Value} {news0 : List (Addr × Obj)} {s : Shared} (F : Fr g L s.heap m0) (N : News g L s.heap news0) (hE : PassesOwn (model prog w) A env E)
  (J : Nat → (Str → Option Value) → List (Addr × Obj) → Prop) {n0 : Nat} (h0 : J n0 m0 news0)
  (step : ∀ n m news h tk, Fr g L h m → News g L h news → J n m news → ∀ R : Shared → Prop,
     (∀ n' m' news' h' tk', n' < n → Fr g L h' m' → News g L h' news' → J n' m' news' → R { s with heap := h', toks := tk' }) →
     wpAny (model prog w) A (isTrue test env (eval test env)) (fun b s₂ => if b = true then wpAny (model prog w) A (execs body env) (WhlNext R Q) E s₂ else wpAny (model prog w) A (execs orelse env) Q E s₂) E { s with heap := h, toks := tk }) :
  wpAny (model prog w) A (exec (.While test body orelse pos) env) Q E s := by
  refine whl_start 0 ?_
  refine whl_inv F N J h0 fun n m news h tk F' N' hJ IH => ?_
  have hs := step n m news h tk F' N' hJ (WhlRest prog w A E env test body orelse Q 0) IH
  refine whl_turn (k := 0) hE (wpAny_mono hs (fun b s₂ h₂ => ?_) fun _ _ x => x)
  cases b with
  | false => exact WhlIf.no rfl h₂
  | true =>
    refine WhlIf.yes rfl (wpAny_mono h₂ (fun f s₃ h₃ => ?_) fun _ _ x => x)
    cases f <;> exact h₃

theorem whl_inv3 {prog : Program} {w : World} {A : Around} {E : Value → Shared → Prop} {env : Env} {test : PySem.Expr} {body orelse : List Stmt} {pos : Pos} {Q : Flow → Shared → Prop}
  {g : Heap} {L : Addr} {m0 : Str → Option Value} {news0 : List (Addr × Obj)} {s : Shared} (F : Fr g L s.heap m0) (N : News g L s.heap news0) (hE : PassesOwn (model prog w) A env E)
  (J : Nat → (Str → Option Value) → List (Addr × Obj) → Prop) (h0 : ∃ n0, J n0 m0 news0)
  (step : ∀ n m news h tk, Fr g L h m → News g L h news → J n m news → ∀ R : Shared → Prop,
     (∀ n' m' news' h' tk', n' < n → Fr g L h' m' → News g L h' news' → J n' m' news' → R { s with heap := h', toks := tk' }) →
     wpAny (model prog w) A (isTrue test env (eval test env)) (fun b s₂ => if b = true then wpAny (model prog w) A (execs body env) (WhlNext R Q) E s₂ else wpAny (model prog w) A (execs orelse env) Q E s₂) E { s with heap := h, toks := tk }) :
  wpAny (model prog w) A (exec (.While test body orelse pos) env) Q E s := by
  obtain ⟨n0, h0⟩ := h0
  exact whl_inv2 F N hE J h0 step

/-- where the walk is to stop -/
def Stop (P : Prop) : Prop := P
theorem stop_here {P : Prop} (h : Stop P) : P := h

/-! the texts -/
def isBl (c : Nat) : Bool := c == 32 || c == 9 || c == 13 || c == 10 || c == 11
def isSg (c : Nat) : Bool := c == 60 || c == 124 || c == 62 || c == 38 || c == 59 || c == 40 || c == 41
def skp (l : List Nat) (p : Nat) : Nat := p + ((l.drop p).takeWhile isBl).length

abbrev scOf (h1 h2 : Int) (t1 t2 : Tok) (T : Str) (tt : Tok) (p : Int) (tp : Tok) : Obj :=
  dictOf [⟨h1, .str (PySem.Str.ofString "line") t1, .str T tt⟩, ⟨h2, .str (PySem.Str.ofString "place") t2, .int p tp⟩] 2

/-- the sign at a place -/
def ch (T : Str) (q : Nat) : Nat := T.cps.toList.getD q 0

theorem item_ch {prog : Program} {w : World} {A : Around} {E : Value → Shared → Prop} {s : Shared} {value slice : PySem.Expr} {T : Str} {tt : Tok} {q : Nat} {tq : Tok} {Q : Value → Shared → Prop}
    (hq : (q : Int) < (T.length : Int)) (hT : T.length ≤ 1000) (h : Q (.str ⟨#[ch T q]⟩ s.toks) { s with toks := s.toks + 1 })
    (hs : subscripted slice false (.str T tt) (.int q tq) = operate [.str T tt, .int q tq] (getItem (.str T tt) (.int q tq)) := by with_unfolding_all rfl)
    (ht : ∀ r, letTemporaryGo value (.str T tt) r = pure () := by intro _; with_unfolding_all rfl) :
    wpAny (model prog w) A (subscriptTail value slice (.str T tt) (.int q tq)) Q E s := by
  have e : Txt.item T (q : Int) = ⟨#[ch T q]⟩ := by
    have hq' : q < T.cps.size := by unfold Str.length at hq; omega
    have hlt : (q : Int) < (T.length : Int) := hq
    unfold Txt.item ch Txt.charAt
    have e1 : seqIndex? (q : Int) T.length = some q := by
      have h1 : ¬ ((q:Int) < 0) := by omega
      have h2 : q < T.length := by omega
      simp [seqIndex?, h1, h2]
    simp [e1, hq']
  refine item_str ?_ (by omega) hq (fun _ => ?_) hs ht
  · have : (q:Int) < 1001 := by omega
    unfold fitsSsize
    simp only [Bool.not_eq_true', Bool.or_eq_false_iff, decide_eq_false_iff_not, Int.not_lt, ge_iff_le, Int.not_le]
    omega
  · rw [e]; exact h

theorem item_chI {prog : Program} {w : World} {A : Around} {E : Value → Shared → Prop} {s : Shared} {value slice : PySem.Expr} {T : Str} {tt : Tok} {i : Int} {tq : Tok} {Q : Value → Shared → Prop}
    (h0 : 0 ≤ i) (hq : i < (T.length : Int)) (hT : T.length ≤ 1000) (h : Q (.str ⟨#[ch T i.toNat]⟩ s.toks) { s with toks := s.toks + 1 })
    (hs : subscripted slice false (.str T tt) (.int i tq) = operate [.str T tt, .int i tq] (getItem (.str T tt) (.int i tq)) := by with_unfolding_all rfl)
    (ht : ∀ r, letTemporaryGo value (.str T tt) r = pure () := by intro _; with_unfolding_all rfl) :
    wpAny (model prog w) A (subscriptTail value slice (.str T tt) (.int i tq)) Q E s := by
  obtain ⟨q, rfl⟩ := Int.eq_ofNat_of_zero_le h0
  exact item_ch hq hT h hs ht

theorem one_eq (c k : Nat) (x : Str) (hx : x = ⟨#[k]⟩) : ((⟨#[c]⟩ : Str) == x) = decide (c = k) := by
  subst hx
  by_cases h : c = k
  · subst h; simp
  · have : ¬ ((⟨#[c]⟩ : Str) = ⟨#[k]⟩) := by intro e; injection e with e; simp at e; exact h e
    simp [h]

def sgTwo (T : Str) (p : Nat) : Bool := decide (ch T p = 62 ∧ p + 1 < T.length ∧ ch T (p + 1) = 62)
def sgStr (T : Str) (p : Nat) : Str := if sgTwo T p then PySem.Str.ofString ">>" else ⟨#[ch T p]⟩
def sgEnd (T : Str) (p : Nat) : Nat := if sgTwo T p then p + 2 else p + 1

theorem in_ch {prog : Program} {w : World} {A : Around} {E : Value → Shared → Prop} {s : Shared} {x : Str} {t u : Tok} {c : Nat} {Q : Value → Shared → Prop}
    (h : Q (.bool (decide (c ∈ x.cps.toList))) s) : wpAny (model prog w) A (compareOp .In (.str ⟨#[c]⟩ u) (.str x t)) Q E s :=
  P.in_str (by rw [StrLaws.found_one]; exact h)
theorem notin_ch {prog : Program} {w : World} {A : Around} {E : Value → Shared → Prop} {s : Shared} {x : Str} {t u : Tok} {c : Nat} {Q : Value → Shared → Prop}
    (h : Q (.bool (!decide (c ∈ x.cps.toList))) s) : wpAny (model prog w) A (compareOp .NotIn (.str ⟨#[c]⟩ u) (.str x t)) Q E s :=
  P.notIn_str (by rw [StrLaws.found_one]; exact h)

theorem blanks_lit : (PySem.Str.ofString " \t\u000d\n\u000b").cps.toList = [32, 9, 13, 10, 11] := by decide +kernel
theorem signs_lit : (PySem.Str.ofString "<|>&;()").cps.toList = [60, 124, 62, 38, 59, 40, 41] := by decide +kernel
theorem mem_blanks (c : Nat) : c ∈ (PySem.Str.ofString " \t\u000d\n\u000b").cps.toList ↔ isBl c = true := by
  rw [blanks_lit]; simp [isBl, or_assoc]
theorem mem_signs (c : Nat) : c ∈ (PySem.Str.ofString "<|>&;()").cps.toList ↔ isSg c = true := by
  rw [signs_lit]; simp [isSg, or_assoc]

def isWd (c : Nat) : Bool := !isBl c && !isSg c
/-- where a word that begins at q ends -/
def wnd (l : List Nat) (q : Nat) : Nat := q + ((l.drop q).takeWhile isWd).length
theorem mem_both (c : Nat) : c ∈ (PySem.Str.ofString " \t\u000d\n\u000b" ++ PySem.Str.ofString "<|>&;()").cps.toList ↔ isWd c = false := by
  have e : (PySem.Str.ofString " \t\u000d\n\u000b" ++ PySem.Str.ofString "<|>&;()").cps.toList = (PySem.Str.ofString " \t\u000d\n\u000b").cps.toList ++ (PySem.Str.ofString "<|>&;()").cps.toList := by
    show ((PySem.Str.ofString " \t\u000d\n\u000b").cps ++ (PySem.Str.ofString "<|>&;()").cps).toList = _
    rw [Array.toList_append]
  rw [e, List.mem_append, mem_blanks, mem_signs]
  unfold isWd
  cases isBl c <;> cases isSg c <;> simp

theorem drop_ch {T : Str} {q : Nat} (hq : q < T.length) : T.cps.toList.drop q = ch T q :: T.cps.toList.drop (q + 1) := by
  have hq' : q < T.cps.toList.length := by simpa [Str.length] using hq
  rw [List.drop_eq_getElem_cons hq']; simp [ch, List.getD_eq_getElem?_getD, List.getElem?_eq_getElem hq']
theorem wnd_step {T : Str} {q : Nat} (hq : q < T.length) (hb : isWd (ch T q) = true) : wnd T.cps.toList (q + 1) = wnd T.cps.toList q := by
  unfold wnd
  rw [drop_ch hq, List.takeWhile_cons_of_pos hb]
  simp only [List.length_cons]; omega
theorem wnd_stop {T : Str} {q : Nat} (hb : isWd (ch T q) = false) : wnd T.cps.toList q = q := by
  unfold wnd
  by_cases hq : q < T.length
  · rw [drop_ch hq, List.takeWhile_cons_of_neg (by rw [hb]; exact Bool.false_ne_true)]; rfl
  · rw [List.drop_of_length_le (by simp [Str.length] at hq; simpa using hq)]; rfl
theorem wnd_end {T : Str} {q : Nat} (hq : T.length ≤ q) : wnd T.cps.toList q = q := by
  unfold wnd
  rw [List.drop_of_length_le (by simpa [Str.length] using hq)]; rfl

theorem skp_step {T : Str} {q : Nat} (hq : q < T.length) (hb : isBl (ch T q) = true) : skp T.cps.toList (q + 1) = skp T.cps.toList q := by
  have hq' : q < T.cps.toList.length := by simpa [Str.length] using hq
  have hc : T.cps.toList.drop q = ch T q :: T.cps.toList.drop (q + 1) := by
    rw [List.drop_eq_getElem_cons hq']; simp [ch, List.getD_eq_getElem?_getD, List.getElem?_eq_getElem hq']
  unfold skp
  rw [hc, List.takeWhile_cons_of_pos hb]
  simp only [List.length_cons]; omega
theorem skp_stop {T : Str} {q : Nat} (hb : isBl (ch T q) = false) : skp T.cps.toList q = q := by
  unfold skp
  by_cases hq : q < T.cps.toList.length
  · have hc : T.cps.toList.drop q = ch T q :: T.cps.toList.drop (q + 1) := by
      rw [List.drop_eq_getElem_cons hq]; simp [ch, List.getD_eq_getElem?_getD, List.getElem?_eq_getElem hq]
    rw [hc, List.takeWhile_cons_of_neg (by rw [hb]; exact Bool.false_ne_true)]; rfl
  · rw [List.drop_of_length_le (by omega)]; rfl
theorem skp_end {T : Str} {q : Nat} (hq : T.length ≤ q) : skp T.cps.toList q = q := by
  unfold skp
  rw [List.drop_of_length_le (by simpa [Str.length] using hq)]; rfl
theorem wnd_le {T : Str} {q : Nat} (hq : q ≤ T.length) : wnd T.cps.toList q ≤ T.length := by
  unfold wnd
  have h1 := List.takeWhile_prefix isWd (l := T.cps.toList.drop q)
  have := h1.length_le
  simp [Str.length] at *; omega
theorem wnd_ge {T : Str} {q : Nat} : q ≤ wnd T.cps.toList q := by unfold wnd; omega
theorem skp_le {T : Str} {q : Nat} (hq : q ≤ T.length) : skp T.cps.toList q ≤ T.length := by
  unfold skp
  have h1 := List.takeWhile_prefix isBl (l := T.cps.toList.drop q)
  have := h1.length_le
  simp [Str.length] at *; omega

end Mine
end
/-! NzScan -/
section
open PySem PySem.W PySem.Spec PySem.Calls PyProof.Rows
namespace Mine
theorem word_NzScan_0 : True := by
  k_with_none
  w_top off
  trivial
set_option maxRecDepth 100000
set_option maxHeartbeats 8000000
theorem fill_scan : (fun (_ : PySem.W.OpenLaw) (_ : Params → Frag) => True) PySem.Challenge.rw_nz0213_01 hd.heap_1 := by
  k_fill
  trivial


theorem word_NzScan_1 : True := by
  k_with "my subscriptTail Attribute Name Attribute Name str int" => (refine item_ch (by assumption) (by assumption) ?_)
  trivial
theorem word_NzScan_2 : True := by
  k_with "my last subscriptTail" => (k_dflt (refine item_ch (by assumption) (by assumption) ?_))
  trivial
theorem word_NzScan_3 : True := by
  k_with "my compareOp In str str" => (refine in_ch ?_)
  trivial
theorem blanks_con {w : World} {mean : ExcName → Option Value} {mg mb : Str → Option Value} {x d : Addr} {h1 h2 : Int} {t1 t2 : Tok} {T : Str} {tt : Tok} {p : Nat} {tp : Tok} {zs : List (Addr × Obj)} 
    (hz : ∀ q ∈ zs, q.1 ≠ d) (hxd : x ≠ d) (hT : T.length ≤ 1000) (hp : p ≤ T.length) :
    Con w mean mg mb 171 [.ref x] ((x, instObj 209 d) :: (d, scOf h1 h2 t1 t2 T tt p tp) :: zs) 1 8
      (fun r news' => ∃ tp', r = .none ∧ news' = (x, instObj 209 d) :: (d, scOf h1 h2 t1 t2 T tt (skp T.cps.toList p : Nat) tp') :: zs) NoExc := by
  intro dp un gd cn cs a ccd cl outer A₀ base h₀ L m s Q E B F X N TT hk hdp hun ret exc
  refine wpAny_call ?_
  k_dflt ktr_enter
  walk1; walk1
  rename Fr _ _ _ _ => F1
  rename News _ _ _ _ => N1
  refine whl_inv2 F1 N1 (by passes_own) (J := fun k m news => m = (fun y => List.lookup y [(PySem.Str.ofString "self", Value.ref x)]) ∧ ∃ (q : Nat) (tp' : Tok), news = (x, instObj 209 d) :: (d, scOf h1 h2 t1 t2 T tt q tp') :: zs ∧ k = T.length - q ∧ q ≤ T.length ∧ skp T.cps.toList q = skp T.cps.toList p) (n0 := T.length - p) ?_ ?_
  · exact ⟨rfl, p, tp, rfl, rfl, hp, rfl⟩
  · clear N1 F1
    rintro k m news h tk F1 N1 ⟨e0, q, tq, e1, e2, e3, e4⟩ R IH
    subst e1; subst e0
    k_steps
    · rename (_ ∈ _) => hc
      refine IH _ _ _ _ _ ?_ (by assumption) (by assumption) ⟨rfl, q + 1, _, rfl, rfl, ?_, ?_⟩
      · omega
      · omega
      · rw [skp_step (by omega) ((mem_blanks _).mp hc), e4]
    · rename (¬ (_ ∈ _)) => hc
      obtain rfl : q = skp T.cps.toList p := by
        rw [← e4, skp_stop]
        cases hb : isBl (ch T q) with
        | false => rfl
        | true => exact absurd ((mem_blanks _).mpr hb) hc
      exact ret _ _ _ _ (by assumption) (by assumption) ⟨_, rfl, rfl⟩
    · obtain rfl : q = skp T.cps.toList p := by
        rw [← e4, skp_end (by omega)]
      exact ret _ _ _ _ (by assumption) (by assumption) ⟨_, rfl, rfl⟩
end Mine
end
/-! NzScan2 -/
section
open PySem PySem.W PySem.Spec PySem.Calls PyProof.Rows
namespace Mine
theorem word_NzScan2_0 : True := by
  k_with_none
  w_top off
  trivial
set_option maxRecDepth 100000
set_option maxHeartbeats 8000000
theorem fill_scan2 : (fun (_ : PySem.W.OpenLaw) (_ : Params → Frag) => True) PySem.Challenge.rw_nz0213_01 hd.heap_1 := by
  k_fill
  trivial
theorem word_NzScan2_1 : True := by
  k_with "my last subscriptTail" => (k_here; (with_reducible show wpAny _ _ (subscriptTail _ _ (Value.str _ _) (Value.int _ _)) _ _ _); first | (refine item_ch (by omega) (by assumption) ?_) | (refine item_chI (by omega) (by omega) (by assumption) ?_))
  trivial
theorem word_NzScan2_2 : True := by
  k_with "my compareOp In str str" => (refine in_ch ?_)
  trivial
theorem word_NzScan2_3 : True := by
  k_with "my compareOp NotIn str str" => (refine notin_ch ?_)
  trivial
theorem word_NzScan2_4 : True := by
  k_with "my call ref" => (k_here; (with_reducible show wpAny _ _ (call (Value.ref 171) _ _) _ _ _); k_dflt (refine con_go (by k_asm) (by exact fun _ hp => hp) (by k_asm) (by k_asm) (by k_asm) (by k_asm) (by exact rfl) (blanks_con (by assumption) (by assumption) (by assumption) (by omega)) (by ((try simp only [depth_deeper, ktrTop]); omega)) (by ((try simp only [units_deeper, ktrTop]); omega)) (by exact fun _ hc => hc.elim) ?_; intro r9 news9 h9 tk9 F9 N9 hP9; refine Exists.elim hP9 ?_; clear hP9; intro tp9 hP9; refine And.elim ?_ hP9; clear hP9; intro hr9 hn9; subst hr9; subst hn9; (try k_sweep); (try dsimp only); (try k_fold)))
  trivial


theorem next_is_con {w : World} {mean : ExcName → Option Value} {mg mb : Str → Option Value} {x d : Addr} {h1 h2 : Int} {t1 t2 : Tok} {T : Str} {tt : Tok} {p : Nat} {tp : Tok} {zs : List (Addr × Obj)} {sg : Str} {tsg : Tok}
    (hz : ∀ q ∈ zs, q.1 ≠ d) (hxd : x ≠ d) (hT : T.length ≤ 1000) (hp : p ≤ T.length) :
    Con w mean mg mb 178 [.ref x, .str sg tsg] ((x, instObj 209 d) :: (d, scOf h1 h2 t1 t2 T tt p tp) :: zs) 2 16
      (fun r news' => ∃ tp', r = .bool (decide (skp T.cps.toList p < T.length) && decide (ch T (skp T.cps.toList p) ∈ sg.cps.toList)) ∧ news' = (x, instObj 209 d) :: (d, scOf h1 h2 t1 t2 T tt (skp T.cps.toList p : Nat) tp') :: zs) NoExc := by
  intro dp un gd cn cs a ccd cl outer A₀ base h₀ L m s Q E B F X N TT hk hdp hun ret exc
  refine wpAny_call ?_
  k_dflt ktr_enter
  rename Fr _ _ _ _ => F1
  replace F1 : Fr _ _ _ (fun y => List.lookup y [(PySem.Str.ofString "signs", .str sg tsg), (PySem.Str.ofString "self", .ref x)]) := F1
  k_steps
  · exact ret _ _ _ _ (by assumption) (by assumption) ⟨_, congrArg Value.bool (by rw [decide_eq_true (p := skp T.cps.toList p < T.length) (by omega)]; rfl), rfl⟩
  · exact ret _ _ _ _ (by assumption) (by assumption) ⟨_, congrArg Value.bool (by rw [decide_eq_false (p := skp T.cps.toList p < T.length) (by omega), decide_eq_false (by assumption)]; rfl), rfl⟩

theorem at_end_con {w : World} {mean : ExcName → Option Value} {mg mb : Str → Option Value} {x d : Addr} {h1 h2 : Int} {t1 t2 : Tok} {T : Str} {tt : Tok} {p : Nat} {tp : Tok} {zs : List (Addr × Obj)}
    (hz : ∀ q ∈ zs, q.1 ≠ d) (hxd : x ≠ d) (hT : T.length ≤ 1000) (hp : p ≤ T.length) :
    Con w mean mg mb 185 [.ref x] ((x, instObj 209 d) :: (d, scOf h1 h2 t1 t2 T tt p tp) :: zs) 2 16
      (fun r news' => ∃ tp', r = .bool (decide (skp T.cps.toList p = T.length)) ∧ news' = (x, instObj 209 d) :: (d, scOf h1 h2 t1 t2 T tt (skp T.cps.toList p : Nat) tp') :: zs) NoExc := by
  intro dp un gd cn cs a ccd cl outer A₀ base h₀ L m s Q E B F X N TT hk hdp hun ret exc
  refine wpAny_call ?_
  k_dflt ktr_enter
  rename Fr _ _ _ _ => F1
  replace F1 : Fr _ _ _ (fun y => List.lookup y [(PySem.Str.ofString "self", .ref x)]) := F1
  k_steps
  exact ret _ _ _ _ (by assumption) (by assumption) ⟨_, congrArg Value.bool (by
    by_cases h : skp T.cps.toList p = T.length
    · rw [h]; simp
    · rw [decide_eq_false h]
      have : ¬ ((skp T.cps.toList p : Nat) : Int) = (T.length : Int) := by omega
      simpa using this), rfl⟩

theorem sign_con {w : World} {mean : ExcName → Option Value} {mg mb : Str → Option Value} {x d : Addr} {h1 h2 : Int} {t1 t2 : Tok} {T : Str} {tt : Tok} {p : Nat} {tp : Tok} {zs : List (Addr × Obj)}
    (hz : ∀ q ∈ zs, q.1 ≠ d) (hxd : x ≠ d) (hT : T.length ≤ 1000) (hp : p < T.length) :
    Con w mean mg mb 192 [.ref x] ((x, instObj 209 d) :: (d, scOf h1 h2 t1 t2 T tt p tp) :: zs) 2 16
      (fun r news' => ∃ tp' tr, r = .str (sgStr T p) tr ∧ news' = (x, instObj 209 d) :: (d, scOf h1 h2 t1 t2 T tt (sgEnd T p : Nat) tp') :: zs) NoExc := by
  intro dp un gd cn cs a ccd cl outer A₀ base h₀ L m s Q E B F X N TT hk hdp hun ret exc
  refine wpAny_call ?_
  k_dflt ktr_enter
  rename Fr _ _ _ _ => F1
  replace F1 : Fr _ _ _ (fun y => List.lookup y [(PySem.Str.ofString "self", .ref x)]) := F1
  k_steps
  · rename (((⟨#[ch T p]⟩ : Str) == _) = true) => hc
    rename (((⟨#[ch T (_ : Int).toNat]⟩ : Str) == _) = true) => hd
    rw [one_eq _ 62 _ (by decide +kernel)] at hc hd
    rw [show ((p : Int) + 1).toNat = p + 1 by omega] at hd
    refine ret _ _ _ _ (by assumption) (by assumption) ?_
    have hs : sgTwo T p = true := decide_eq_true ⟨of_decide_eq_true hc, by omega, of_decide_eq_true hd⟩
    unfold sgStr sgEnd
    rw [if_pos hs, if_pos hs]
    exact ⟨_, _, rfl, rfl⟩
  · rename (((⟨#[ch T (_ : Int).toNat]⟩ : Str) == _) = false) => hd
    rw [one_eq _ 62 _ (by decide +kernel)] at hd
    rw [show ((p : Int) + 1).toNat = p + 1 by omega] at hd
    refine ret _ _ _ _ (by assumption) (by assumption) ?_
    have hs : ¬ sgTwo T p = true := fun q => (fun q => of_decide_eq_false hd q.2.2) (of_decide_eq_true q)
    unfold sgStr sgEnd
    rw [if_neg hs, if_neg hs]
    exact ⟨_, _, rfl, rfl⟩
  · refine ret _ _ _ _ (by assumption) (by assumption) ?_
    have hs : ¬ sgTwo T p = true := fun q => (fun q => by have := q.2.1; omega) (of_decide_eq_true q)
    unfold sgStr sgEnd
    rw [if_neg hs, if_neg hs]
    exact ⟨_, _, rfl, rfl⟩
  · rename (((⟨#[ch T p]⟩ : Str) == _) = false) => hc
    rw [one_eq _ 62 _ (by decide +kernel)] at hc
    refine ret _ _ _ _ (by assumption) (by assumption) ?_
    have hs : ¬ sgTwo T p = true := fun q => (fun q => of_decide_eq_false hc q.1) (of_decide_eq_true q)
    unfold sgStr sgEnd
    rw [if_neg hs, if_neg hs]
    exact ⟨_, _, rfl, rfl⟩
end Mine
end
/-! NzScan3 -/
section
open PySem PySem.W PySem.Spec PySem.Calls PyProof.Rows
namespace Mine
theorem word_NzScan3_0 : True := by
  k_with_none
  w_top off
  trivial
set_option maxRecDepth 100000
set_option maxHeartbeats 8000000
theorem fill_scan3 : (fun (_ : PySem.W.OpenLaw) (_ : Params → Frag) => True) PySem.Challenge.rw_nz0213_01 hd.heap_1 := by
  k_fill
  trivial
theorem word_NzScan3_1 : True := by
  k_with "my last subscriptTail" => (k_here; (with_reducible show wpAny _ _ (subscriptTail _ _ (Value.str _ _) (Value.int _ _)) _ _ _); first | (refine item_ch (by omega) (by assumption) ?_) | (refine item_chI (by omega) (by omega) (by assumption) ?_))
  trivial
theorem word_NzScan3_2 : True := by
  k_with "my compareOp In str str" => (refine in_ch ?_)
  trivial
theorem word_NzScan3_3 : True := by
  k_with "my compareOp NotIn str str" => (refine notin_ch ?_)
  trivial
theorem word_NzScan3_4 : True := by
  k_with "my call ref" => (k_here; (with_reducible show wpAny _ _ (call (Value.ref 171) _ _) _ _ _); k_dflt (refine con_go (by k_asm) (by exact fun _ hp => hp) (by k_asm) (by k_asm) (by k_asm) (by k_asm) (by exact rfl) (blanks_con (by assumption) (by assumption) (by assumption) (by omega)) (by ((try simp only [depth_deeper, ktrTop]); omega)) (by ((try simp only [units_deeper, ktrTop]); omega)) (by exact fun _ hc => hc.elim) ?_; intro r9 news9 h9 tk9 F9 N9 hP9; refine Exists.elim hP9 ?_; clear hP9; intro tp9 hP9; refine And.elim ?_ hP9; clear hP9; intro hr9 hn9; subst hr9; subst hn9; (try k_sweep); (try dsimp only); (try k_fold)))
  trivial


theorem word_NzScan3_5 : True := by
  k_with "my call ref" => (k_here; (with_reducible show wpAny _ _ (call (Value.ref 185) _ _) _ _ _); k_dflt (refine con_go (by k_asm) (by exact fun _ hp => hp) (by k_asm) (by k_asm) (by k_asm) (by k_asm) (by exact rfl) (at_end_con (by assumption) (by assumption) (by assumption) (by omega)) (by ((try simp only [depth_deeper, ktrTop]); omega)) (by ((try simp only [units_deeper, ktrTop]); omega)) (by exact fun _ hc => hc.elim) ?_; intro r9 news9 h9 tk9 F9 N9 hP9; refine Exists.elim hP9 ?_; clear hP9; intro tp9 hP9; refine And.elim ?_ hP9; clear hP9; intro hr9 hn9; subst hr9; subst hn9; (try k_sweep); (try dsimp only); (try k_fold)))
  trivial
theorem word_NzScan3_6 : True := by
  k_with "my exec While BoolOp cons nil" => refine stop_here ?_
  trivial
theorem is_word_con {w : World} {mean : ExcName → Option Value} {mg mb : Str → Option Value} {x d : Addr} {h1 h2 : Int} {t1 t2 : Tok} {T : Str} {tt : Tok} {p : Nat} {tp : Tok} {zs : List (Addr × Obj)}
    (hz : ∀ q ∈ zs, q.1 ≠ d) (hxd : x ≠ d) (hT : T.length ≤ 1000) (hp : p ≤ T.length) :
    Con w mean mg mb 199 [.ref x] ((x, instObj 209 d) :: (d, scOf h1 h2 t1 t2 T tt p tp) :: zs) 3 24
      (fun r news' => ∃ tp', r = .bool (decide (skp T.cps.toList p < T.length) && !isSg (ch T (skp T.cps.toList p))) ∧ news' = (x, instObj 209 d) :: (d, scOf h1 h2 t1 t2 T tt (skp T.cps.toList p : Nat) tp') :: zs) NoExc := by
  intro dp un gd cn cs a ccd cl outer A₀ base h₀ L m s Q E B F X N TT hk hdp hun ret exc
  have hle := skp_le hp
  refine wpAny_call ?_
  k_dflt ktr_enter
  rename Fr _ _ _ _ => F1
  replace F1 : Fr _ _ _ (fun y => List.lookup y [(PySem.Str.ofString "self", .ref x)]) := F1
  k_steps
  · rename (skp T.cps.toList p = T.length) => hc
    exact ret _ _ _ _ (by assumption) (by assumption) ⟨_, congrArg Value.bool (by rw [decide_eq_true hc, decide_eq_false (p := skp T.cps.toList p < T.length) (by omega)]; rfl), rfl⟩
  · rename (¬ skp T.cps.toList p = T.length) => hc
    exact ret _ _ _ _ (by assumption) (by assumption) ⟨_, congrArg Value.bool (by
      rw [decide_eq_true (p := skp T.cps.toList p < T.length) (by omega), Bool.true_and]
      refine congrArg not ?_
      rw [Bool.eq_iff_iff, decide_eq_true_iff]; exact mem_signs _), rfl⟩

theorem word_con {w : World} {mean : ExcName → Option Value} {mg mb : Str → Option Value} {x d : Addr} {h1 h2 : Int} {t1 t2 : Tok} {T : Str} {tt : Tok} {p : Nat} {tp : Tok} {zs : List (Addr × Obj)}
    (hz : ∀ q ∈ zs, q.1 ≠ d) (hxd : x ≠ d) (hT : T.length ≤ 1000) (hp : p ≤ T.length) :
    Con w mean mg mb 206 [.ref x] ((x, instObj 209 d) :: (d, scOf h1 h2 t1 t2 T tt p tp) :: zs) 3 24
      (fun r news' => ∃ tp' tr, r = .str (Txt.slice T (some (skp T.cps.toList p : Nat)) (some (wnd T.cps.toList (skp T.cps.toList p) : Nat))) tr ∧ news' = (x, instObj 209 d) :: (d, scOf h1 h2 t1 t2 T tt (wnd T.cps.toList (skp T.cps.toList p) : Nat) tp') :: zs) NoExc := by
  intro dp un gd cn cs a ccd cl outer A₀ base h₀ L m s Q E B F X N TT hk hdp hun ret exc
  have hle := skp_le hp
  refine wpAny_call ?_
  k_dflt ktr_enter
  rename Fr _ _ _ _ => F1
  replace F1 : Fr _ _ _ (fun y => List.lookup y [(PySem.Str.ofString "self", .ref x)]) := F1
  k_steps
  rename Fr _ _ _ _ => F2
  rename News _ _ _ _ => N2
  unfold Stop
  refine whl_inv2 F2 N2 (by passes_own) (J := fun k m news => (∃ tq, m = (fun y => if y = PySem.Str.ofString "begin" then some (Value.int (skp T.cps.toList p : Nat) tq) else List.lookup y [(PySem.Str.ofString "self", Value.ref x)])) ∧ ∃ (q : Nat) (tp' : Tok), news = (x, instObj 209 d) :: (d, scOf h1 h2 t1 t2 T tt q tp') :: zs ∧ k = T.length - q ∧ q ≤ T.length ∧ skp T.cps.toList p ≤ q ∧ wnd T.cps.toList q = wnd T.cps.toList (skp T.cps.toList p)) (n0 := T.length - skp T.cps.toList p) ?_ ?_
  · exact ⟨⟨_, rfl⟩, _, _, rfl, rfl, hle, Nat.le_refl _, rfl⟩
  · clear N2 F2
    rintro k m news h tk F1 N1 ⟨⟨tm, e0⟩, q, tq, e1, e2, e3, e4, e5⟩ R IH
    subst e1; subst e0
    k_steps
    · rename (ch T q ∈ _) => hc
      obtain rfl : q = wnd T.cps.toList (skp T.cps.toList p) := by rw [← e5, wnd_stop ((mem_both _).mp hc)]
      exact ret _ _ _ _ (by assumption) (by assumption) ⟨_, _, rfl, rfl⟩
    · rename (¬ ch T q ∈ _) => hc
      refine IH _ _ _ _ _ ?_ (by assumption) (by assumption) ⟨⟨_, rfl⟩, q + 1, _, rfl, rfl, ?_, ?_, ?_⟩
      · omega
      · omega
      · omega
      · rw [wnd_step (by omega) (by
          cases hb : isWd (ch T q) with
          | true => rfl
          | false => exact absurd ((mem_both _).mpr hb) hc), e5]
    · obtain rfl : q = wnd T.cps.toList (skp T.cps.toList p) := by rw [← e5, wnd_end (by omega)]
      exact ret _ _ _ _ (by assumption) (by assumption) ⟨_, _, rfl, rfl⟩
end Mine
end
/-! NzTok -/
section
open PySem PySem.W PyProof.Rows
namespace Mine
set_option maxRecDepth 100000
set_option maxHeartbeats 8000000

/-! tokens -/
inductive Tk where
  | sg (c : Nat) (tw : Bool)
  | wd (s : Str)

theorem dropWhile_le (p : Nat → Bool) : ∀ l : List Nat, (l.dropWhile p).length ≤ l.length
  | [] => Nat.le_refl _
  | c :: l => by
    rw [List.dropWhile_cons]
    split
    · exact Nat.le_succ_of_le (dropWhile_le p l)
    · exact Nat.le_refl _

def lex : List Nat → List Tk
  | [] => []
  | c :: l =>
    if isBl c = true then lex l
    else if isSg c = true then
      if c = 62 ∧ l.head? = some 62 then .sg 62 true :: lex l.tail
      else .sg c false :: lex l
    else .wd ⟨(c :: l.takeWhile isWd).toArray⟩ :: lex (l.dropWhile isWd)
termination_by l => l.length
decreasing_by
  all_goals simp only [List.length_cons, List.length_tail]
  all_goals first | omega | exact Nat.lt_succ_of_le (dropWhile_le _ _)

theorem lex_nil : lex [] = [] := by rw [lex]
theorem lex_bl {c : Nat} {l : List Nat} (h : isBl c = true) : lex (c :: l) = lex l := by rw [lex, if_pos h]
theorem lex_two {l : List Nat} : lex (62 :: 62 :: l) = .sg 62 true :: lex l := by
  rw [lex, if_neg (by decide), if_pos (by decide), if_pos ⟨rfl, rfl⟩]; rfl
theorem lex_sg {c : Nat} {l : List Nat} (h : isSg c = true) (hn : ¬ (c = 62 ∧ l.head? = some 62)) : lex (c :: l) = .sg c false :: lex l := by
  have hb : ¬ isBl c = true := by
    intro hb
    simp only [isBl, isSg, Bool.or_eq_true, beq_iff_eq] at hb h
    omega
  rw [lex, if_neg hb, if_pos h, if_neg hn]
theorem wd_not {c : Nat} (h : isWd c = true) : isBl c = false ∧ isSg c = false := by
  unfold isWd at h
  cases hb : isBl c <;> cases hs : isSg c <;> simp_all
theorem lex_wd {c : Nat} {l : List Nat} (h : isWd c = true) : lex (c :: l) = .wd ⟨(c :: l.takeWhile isWd).toArray⟩ :: lex (l.dropWhile isWd) := by
  obtain ⟨h1, h2⟩ := wd_not h
  rw [lex, if_neg (by rw [h1]; exact Bool.false_ne_true), if_neg (by rw [h2]; exact Bool.false_ne_true)]

def tks (T : Str) (p : Nat) : List Tk := lex (T.cps.toList.drop p)

def isIn (cs : List Nat) : List Tk → Bool
  | .sg c _ :: _ => decide (c ∈ cs)
  | _ => false
def isWord : List Tk → Bool
  | .wd _ :: _ => true
  | _ => false
def wordOf : List Tk → Str
  | .wd s :: _ => s
  | _ => default
def tkC : List Tk → Nat
  | .sg c _ :: _ => c
  | _ => 0
def tkTw : List Tk → Bool
  | .sg _ tw :: _ => tw
  | _ => false
def sgText (c : Nat) (tw : Bool) : Str := if tw = true then PySem.Str.ofString ">>" else ⟨#[c]⟩
def tkText (ts : List Tk) : Str := sgText (tkC ts) (tkTw ts)

theorem lex_drop_blanks : ∀ l : List Nat, lex (l.drop (l.takeWhile isBl).length) = lex l
  | [] => rfl
  | c :: l => by
    rw [List.takeWhile_cons]
    split
    · rename_i h
      rw [List.length_cons, List.drop_succ_cons, lex_bl h]
      exact lex_drop_blanks l
    · rfl
theorem tks_skp (T : Str) (p : Nat) : tks T (skp T.cps.toList p) = tks T p := by
  unfold tks skp
  rw [← List.drop_drop]
  exact lex_drop_blanks _

/-- not at a blank -/
def AtTok (T : Str) (q : Nat) : Prop := q < T.length → isBl (ch T q) = false

theorem skp_at (T : Str) (p : Nat) : AtTok T (skp T.cps.toList p) := by
  intro hq
  have h2 := drop_ch hq
  unfold skp at h2 hq ⊢
  rw [← List.drop_drop] at h2
  have h3 : ∀ (l : List Nat) (c : Nat) (r : List Nat), l.drop (l.takeWhile isBl).length = c :: r → isBl c = false := by
    intro l
    induction l with
    | nil => intro c r h; simp at h
    | cons a l ih =>
      intro c r h
      rw [List.takeWhile_cons] at h
      split at h
      · exact ih c r (by simpa using h)
      · rename_i ha
        simp at h
        rw [← h.1]; simpa using ha
  exact h3 _ _ _ h2

theorem len_drop {T : Str} {q : Nat} : (T.cps.toList.drop q).length = T.length - q := by simp [Str.length]

theorem tks_end {T : Str} {q : Nat} (h : T.length ≤ q) : tks T q = [] := by
  unfold tks
  rw [List.drop_of_length_le (by simpa [Str.length] using h)]
  exact lex_nil

theorem tks_sign {T : Str} {q : Nat} (hq : q < T.length) (hs : isSg (ch T q) = true) : tks T q = .sg (ch T q) (sgTwo T q) :: tks T (sgEnd T q) := by
  unfold tks sgEnd
  rw [drop_ch hq]
  by_cases h : sgTwo T q = true
  · have h' := of_decide_eq_true h
    rw [if_pos h, h, h'.1, drop_ch h'.2.1, h'.2.2]
    exact lex_two
  · have hf : sgTwo T q = false := by simpa using h
    rw [if_neg h, hf]
    refine lex_sg hs fun hc => h (decide_eq_true ⟨hc.1, ?_⟩)
    have h2 := hc.2
    by_cases hl : q + 1 < T.length
    · rw [drop_ch hl] at h2
      exact ⟨hl, by simpa using h2⟩
    · rw [List.drop_of_length_le (by simp [Str.length] at hl; simpa using hl)] at h2
      simp at h2

theorem drop_takeWhile (p : Nat → Bool) : ∀ l : List Nat, l.drop (l.takeWhile p).length = l.dropWhile p
  | [] => rfl
  | c :: l => by
    rw [List.takeWhile_cons, List.dropWhile_cons]
    split
    · simpa using drop_takeWhile p l
    · rfl

/-- the word that begins at q -/
def wordAt (T : Str) (q : Nat) : Str := ⟨((T.cps.toList.drop q).takeWhile isWd).toArray⟩

theorem tks_word {T : Str} {q : Nat} (hq : q < T.length) (hs : isWd (ch T q) = true) : tks T q = .wd (wordAt T q) :: tks T (wnd T.cps.toList q) := by
  have e : T.cps.toList.drop (wnd T.cps.toList q) = (T.cps.toList.drop q).dropWhile isWd := by
    unfold wnd
    rw [← List.drop_drop, drop_takeWhile]
  unfold tks wordAt
  rw [e, drop_ch hq, lex_wd hs, List.takeWhile_cons_of_pos hs, List.dropWhile_cons_of_pos hs]

end Mine
end
/-! NzParse -/
section
open PySem PySem.W PyProof.Rows
namespace Mine
set_option maxRecDepth 100000
set_option maxHeartbeats 8000000

/-! the parser, on tokens -/
abbrev Red := Str × Nat × Bool
inductive Tree where
  | run (args : List Str)
  | redir (c : Tree) (r : Red)
  | pair (sg : Str) (l r : Tree)
  | back (c : Tree)

def wrap : List Red → Tree → Tree
  | [], t => t
  | r :: rs, t => .redir (wrap rs t) r

def isR (c : Nat) : Bool := decide (c ∈ [60, 62])

def pReds : List Red → List Tk → Option (List Red × List Tk)
  | acc, .sg c tw :: .wd s :: ts => if isR c = true then pReds ((s, c, tw) :: acc) ts else some (acc, .sg c tw :: .wd s :: ts)
  | acc, .sg c tw :: ts => if isR c = true then none else some (acc, .sg c tw :: ts)
  | acc, ts => some (acc, ts)

theorem pReds_stop {acc : List Red} : ∀ {ts : List Tk}, isIn [60, 62] ts = false → pReds acc ts = some (acc, ts)
  | [], _ => by simp [pReds]
  | .wd _ :: _, _ => by simp [pReds]
  | [.sg c tw], h => by
    have h' : isR c = false := h
    simp [pReds, h']
  | .sg c tw :: .wd _ :: _, h => by
    have h' : isR c = false := h
    simp [pReds, h']
  | .sg c tw :: .sg _ _ :: _, h => by
    have h' : isR c = false := h
    simp [pReds, h']
theorem pReds_bad {acc : List Red} : ∀ {ts : List Tk}, isIn [60, 62] ts = true → isWord ts.tail = false → pReds acc ts = none
  | [.sg c tw], h, _ => by
    have h' : isR c = true := h
    simp [pReds, h']
  | .sg c tw :: .sg _ _ :: _, h, _ => by
    have h' : isR c = true := h
    simp [pReds, h']
theorem pReds_step {acc : List Red} : ∀ {ts : List Tk}, isIn [60, 62] ts = true → isWord ts.tail = true → pReds acc ts = pReds ((wordOf ts.tail, tkC ts, tkTw ts) :: acc) ts.tail.tail
  | .sg c tw :: .wd _ :: _, h, _ => by
    have h' : isR c = true := h
    simp [pReds, h', wordOf, tkC, tkTw]

def pArgs : Nat → List Str → List Red → List Tk → Option (List Str × List Red × List Tk)
  | 0, _, _, _ => none
  | n + 1, args, acc, ts =>
    if ts.isEmpty || isIn [124, 41, 38, 59] ts then some (args, acc, ts)
    else if isWord ts = false then none
    else if args.length = 9 then none
    else match pReds acc ts.tail with
      | none => none
      | some (acc', ts') => pArgs n (args ++ [wordOf ts]) acc' ts'

abbrev PRes := Option (Tree × List Tk)

def pBlock (line : List Tk → PRes) (ts : List Tk) : PRes := match line ts.tail with
  | none => none
  | some (t, ts1) => if isIn [41] ts1 = true then (match pReds [] ts1.tail with | none => none | some (acc, ts2) => some (wrap acc t, ts2)) else none

def pCommand (line : List Tk → PRes) (ts : List Tk) : PRes :=
  if isIn [40] ts = true then pBlock line ts
  else match pReds [] ts with
    | none => none
    | some (acc, ts1) => match pArgs (ts1.length + 1) [] acc ts1 with
      | none => none
      | some (args, acc', ts2) => some (wrap acc' (.run args), ts2)

def pPipe (line : List Tk → PRes) : Nat → List Tk → PRes
  | 0, _ => none
  | n + 1, ts => match pCommand line ts with
    | none => none
    | some (t, ts1) => if isIn [124] ts1 = true then (match pPipe line n ts1.tail with | none => none | some (t2, ts2) => some (.pair (PySem.Str.ofString "|") t t2, ts2)) else some (t, ts1)

def pBack : Tree → List Tk → Tree × List Tk
  | t, .sg c tw :: ts => if c = 38 then pBack (.back t) ts else (t, .sg c tw :: ts)
  | t, ts => (t, ts)

def pLine : Nat → List Tk → PRes
  | 0, _ => none
  | n + 1, ts => match pPipe (pLine n) (n + 1) ts with
    | none => none
    | some (t, ts1) => if isIn [59] (pBack t ts1).2 = true then (match pLine n (pBack t ts1).2.tail with | none => none | some (t2, ts3) => some (.pair (PySem.Str.ofString ";") (pBack t ts1).1 t2, ts3)) else some (pBack t ts1)

theorem pBack_stop {t : Tree} : ∀ {ts : List Tk}, isIn [38] ts = false → pBack t ts = (t, ts)
  | [], _ => rfl
  | .wd _ :: _, _ => rfl
  | .sg c tw :: ts, h => by
    have h' : ¬ c = 38 := by simpa [isIn] using h
    unfold pBack; rw [if_neg h']
theorem pBack_step {t : Tree} : ∀ {ts : List Tk}, isIn [38] ts = true → pBack t ts = pBack (.back t) ts.tail
  | .sg c tw :: ts, h => by
    have h' : c = 38 := by simpa [isIn] using h
    rw [pBack, if_pos h']; rfl

/-! nothing is put back -/
theorem tail_le {ts : List Tk} : ts.tail.length ≤ ts.length := by simp
theorem tail_lt {cs : List Nat} : ∀ {ts : List Tk}, isIn cs ts = true → ts.tail.length + 1 = ts.length
  | .sg _ _ :: _, _ => rfl
theorem wtail_lt : ∀ {ts : List Tk}, isWord ts = true → ts.tail.length + 1 = ts.length
  | .wd _ :: _, _ => rfl
theorem pReds_le : ∀ {ts : List Tk} {acc acc' : List Red} {ts' : List Tk}, pReds acc ts = some (acc', ts') → ts'.length ≤ ts.length
  | [], acc, _, _, h => by simp [pReds] at h; rw [← h.2]; exact Nat.le_refl _
  | .wd _ :: _, _, _, _, h => by simp [pReds] at h; rw [← h.2]; exact Nat.le_refl _
  | [.sg c tw], _, _, _, h => by
    simp [pReds] at h; rw [← h.2.2]; exact Nat.le_refl _
  | .sg c tw :: .sg _ _ :: _, _, _, _, h => by
    simp [pReds] at h; rw [← h.2.2]; exact Nat.le_refl _
  | .sg c tw :: .wd s :: ts, _, _, _, h => by
    simp only [pReds] at h
    split at h
    · have := pReds_le h
      simp only [List.length_cons]; omega
    · injection h with h; injection h with h1 h2; rw [← h2]; exact Nat.le_refl _
theorem pArgs_le : ∀ {n : Nat} {args args' : List Str} {acc acc' : List Red} {ts ts' : List Tk}, pArgs n args acc ts = some (args', acc', ts') → ts'.length ≤ ts.length
  | 0, _, _, _, _, _, _, h => by simp [pArgs] at h
  | n + 1, args, _, acc, _, ts, _, h => by
    unfold pArgs at h
    split at h
    · injection h with h; injection h with h1 h2; injection h2 with h2 h3; rw [← h3]; exact Nat.le_refl _
    · split at h
      · cases h
      · split at h
        · cases h
        · split at h
          · cases h
          · rename_i acc2 ts2 hr
            have h1 := pReds_le hr
            have h2 := pArgs_le h
            have h3 := tail_le (ts := ts)
            omega
def LineLe (line : List Tk → PRes) : Prop := ∀ ts t ts', line ts = some (t, ts') → ts'.length ≤ ts.length
theorem pBlock_le {line : List Tk → PRes} (hl : LineLe line) : LineLe (pBlock line) := by
  intro ts t ts' h
  unfold pBlock at h
  split at h
  · cases h
  · rename_i t1 ts1 h1
    split at h
    · split at h
      · cases h
      · rename_i acc ts2 h2
        injection h with h; injection h with h3 h4
        have a1 := hl _ _ _ h1
        have a2 := pReds_le h2
        have a3 := tail_le (ts := ts)
        have a4 := tail_le (ts := ts1)
        rw [← h4]; omega
    · cases h
theorem pCommand_le {line : List Tk → PRes} (hl : LineLe line) : LineLe (pCommand line) := by
  intro ts t ts' h
  unfold pCommand at h
  split at h
  · exact pBlock_le hl _ _ _ h
  · split at h
    · cases h
    · rename_i acc ts1 h1
      split at h
      · cases h
      · rename_i args acc' ts2 h2
        injection h with h; injection h with h3 h4
        have a1 := pReds_le h1
        have a2 := pArgs_le h2
        rw [← h4]; omega
theorem pPipe_le {line : List Tk → PRes} (hl : LineLe line) : ∀ n, LineLe (pPipe line n)
  | 0 => by intro ts t ts' h; simp [pPipe] at h
  | n + 1 => by
    intro ts t ts' h
    unfold pPipe at h
    split at h
    · cases h
    · rename_i t1 ts1 h1
      have a1 := pCommand_le hl _ _ _ h1
      split at h
      · split at h
        · cases h
        · rename_i t2 ts2 h2
          injection h with h; injection h with h3 h4
          have a2 := pPipe_le hl n _ _ _ h2
          have a4 := tail_le (ts := ts1)
          rw [← h4]; omega
      · injection h with h; injection h with h3 h4
        rw [← h4]; exact a1
theorem pBack_le : ∀ {ts : List Tk} {t : Tree}, (pBack t ts).2.length ≤ ts.length
  | [], _ => Nat.le_refl _
  | .wd _ :: _, _ => Nat.le_refl _
  | .sg c tw :: ts, t => by
    unfold pBack
    split
    · have := pBack_le (ts := ts) (t := .back t)
      simp only [List.length_cons]; omega
    · exact Nat.le_refl _
theorem pLine_le : ∀ n, LineLe (pLine n)
  | 0 => by intro ts t ts' h; simp [pLine] at h
  | n + 1 => by
    intro ts t ts' h
    unfold pLine at h
    split at h
    · cases h
    · rename_i t1 ts1 h1
      have a1 := pPipe_le (pLine_le n) _ _ _ _ h1
      have a2 := pBack_le (ts := ts1) (t := t1)
      split at h
      · split at h
        · cases h
        · rename_i t2 ts2 h2
          injection h with h; injection h with h3 h4
          have a3 := pLine_le n _ _ _ h2
          have a4 := tail_le (ts := (pBack t1 ts1).2)
          rw [← h4]; omega
      · injection h with h
        have : ts' = (pBack t1 ts1).2 := by rw [h]
        rw [this]; omega

/-! trees on the ledger -/
abbrev redObj (h1 h2 h3 h4 : Int) (t1 t2 t3 t4 : Tok) (v : Value) (px : Str) (tp tm tf : Tok) (md fd : Int) : Obj :=
  dictOf [⟨h1, .str (PySem.Str.ofString "command") t1, v⟩, ⟨h2, .str (PySem.Str.ofString "path") t2, .str px tp⟩, ⟨h3, .str (PySem.Str.ofString "mode") t3, .int md tm⟩, ⟨h4, .str (PySem.Str.ofString "descriptor") t4, .int fd tf⟩] 4
def mdOf (r : Red) : Int := if (sgText r.2.1 r.2.2 == PySem.Str.ofString "<") = true then 0 else if (sgText r.2.1 r.2.2 == PySem.Str.ofString ">") = true then 1537 else 2561
def fdOf (r : Red) : Int := if (sgText r.2.1 r.2.2 == PySem.Str.ofString "<") = true then 0 else 1

inductive RedIn (news : List (Addr × Obj)) (v : Value) : Value → List Red → Prop
  | nil : RedIn news v v []
  | cons {c : Value} {rs : List Red} {r : Red} {a da : Addr} {h1 h2 h3 h4 : Int} {t1 t2 t3 t4 tp tm tf : Tok} : (a, instObj 104 da) ∈ news →
      (da, redObj h1 h2 h3 h4 t1 t2 t3 t4 c r.1 tp tm tf (mdOf r) (fdOf r)) ∈ news → RedIn news v c rs → RedIn news v (.ref a) (r :: rs)
theorem RedIn.mono {news news' : List (Addr × Obj)} {v c : Value} {rs : List Red} (hs : ∀ p ∈ news, p ∈ news') (h : RedIn news v c rs) : RedIn news' v c rs := by
  induction h with
  | nil => exact .nil
  | cons h1 h2 _ ih => exact .cons (hs _ h1) (hs _ h2) ih
theorem RedIn.app {news : List (Addr × Obj)} {v u c : Value} {rs qs : List Red} (h1 : RedIn news v u qs) (h2 : RedIn news u c rs) : RedIn news v c (rs ++ qs) := by
  induction h2 with
  | nil => exact h1
  | cons a b _ ih => exact .cons a b ih

inductive TreeIn (news : List (Addr × Obj)) : Value → Tree → Prop
  | run {a da la : Addr} {h : Int} {t : Tok} {n : Nat} {vs : List Value} {args : List Str} : (a, instObj 83 da) ∈ news → (da, dictOf [⟨h, .str (PySem.Str.ofString "arguments") t, .ref la⟩] 1) ∈ news →
      (la, listOf vs.toArray n) ∈ news → DatAll news vs (args.map Dat.str) → TreeIn news (.ref a) (.run args)
  | redir {c : Value} {ct : Tree} {r : Red} {a da : Addr} {h1 h2 h3 h4 : Int} {t1 t2 t3 t4 tp tm tf : Tok} : (a, instObj 104 da) ∈ news →
      (da, redObj h1 h2 h3 h4 t1 t2 t3 t4 c r.1 tp tm tf (mdOf r) (fdOf r)) ∈ news → TreeIn news c ct → TreeIn news (.ref a) (.redir ct r)
  | pair {a da : Addr} {h1 h2 h3 : Int} {t1 t2 t3 ts : Tok} {sg : Str} {l r : Value} {lt rt : Tree} : (a, instObj 125 da) ∈ news →
      (da, dictOf [⟨h1, .str (PySem.Str.ofString "sign") t1, .str sg ts⟩, ⟨h2, .str (PySem.Str.ofString "left") t2, l⟩, ⟨h3, .str (PySem.Str.ofString "right") t3, r⟩] 3) ∈ news → TreeIn news l lt → TreeIn news r rt → TreeIn news (.ref a) (.pair sg lt rt)
  | back {a da : Addr} {h1 : Int} {t1 : Tok} {c : Value} {ct : Tree} : (a, instObj 146 da) ∈ news → (da, dictOf [⟨h1, .str (PySem.Str.ofString "command") t1, c⟩] 1) ∈ news → TreeIn news c ct → TreeIn news (.ref a) (.back ct)
theorem TreeIn.mono {news news' : List (Addr × Obj)} {v : Value} {t : Tree} (hs : ∀ p ∈ news, p ∈ news') (h : TreeIn news v t) : TreeIn news' v t := by
  induction h with
  | run h1 h2 h3 h4 => exact .run (hs _ h1) (hs _ h2) (hs _ h3) (h4.mono hs)
  | redir h1 h2 _ ih => exact .redir (hs _ h1) (hs _ h2) ih
  | pair h1 h2 _ _ i1 i2 => exact .pair (hs _ h1) (hs _ h2) i1 i2
  | back h1 h2 _ ih => exact .back (hs _ h1) (hs _ h2) ih
theorem RedIn.tree {news : List (Addr × Obj)} {v c : Value} {rs : List Red} {t : Tree} (h : RedIn news v c rs) (ht : TreeIn news v t) : TreeIn news c (wrap rs t) := by
  induction h with
  | nil => exact ht
  | cons a b _ ih => exact .redir a b ih
end Mine
end
/-! NzScanT -/
section
open PySem PySem.W PyProof.Rows
namespace Mine
set_option maxRecDepth 100000
set_option maxHeartbeats 8000000

theorem slice_word {T : Str} {q : Nat} (hq : q ≤ T.length) : Txt.slice T (some ((q : Nat) : Int)) (some ((wnd T.cps.toList q : Nat) : Int)) = wordAt T q := by
  have hw := wnd_le hq
  have hg : q ≤ wnd T.cps.toList q := wnd_ge
  have e : ((T.cps.toList.drop q).take (wnd T.cps.toList q - q)) = (T.cps.toList.drop q).takeWhile isWd := by
    unfold wnd
    rw [Nat.add_sub_cancel_left]
    have h := List.prefix_iff_eq_take.mp (List.takeWhile_prefix isWd (l := T.cps.toList.drop q))
    exact h.symm
  have e2 := StrLaws.sliced_plain T hg hw
  unfold Txt.slice wordAt
  split
  · rename_i h
    simp only [Bool.and_eq_true, beq_iff_eq] at h
    rw [StrLaws.strSliceIndices_plain hg hw] at h
    have h2 := h.2
    simp only [List.length_map, List.length_range] at h2
    rw [← e]
    have hl : T.cps.toList.length = T.length := by simp [Str.length]
    have q0 : T.length = 0 ∨ q = 0 := by omega
    have : (T.cps.toList.drop q).take (wnd T.cps.toList q - q) = T.cps.toList := by
      rcases q0 with h0 | h0
      · have : T.cps.toList = [] := List.length_eq_zero_iff.mp (by omega)
        rw [this]; simp
      · rw [h0] at h2 ⊢
        rw [List.drop_zero, List.take_of_length_le (by omega)]
    rw [this]
  · rw [e2, e]

theorem sgEnd_le {T : Str} {q : Nat} (hq : q < T.length) : sgEnd T q ≤ T.length := by
  unfold sgEnd
  split
  · rename_i h
    have := (of_decide_eq_true h).2.1
    omega
  · omega

/-- what stands at a place that is no blank -/
theorem tok_cases {T : Str} {q : Nat} (hq : q ≤ T.length) (ha : AtTok T q) :
    (q = T.length ∧ tks T q = []) ∨ (q < T.length ∧ isSg (ch T q) = true ∧ tks T q = .sg (ch T q) (sgTwo T q) :: tks T (sgEnd T q)) ∨
    (q < T.length ∧ isSg (ch T q) = false ∧ tks T q = .wd (wordAt T q) :: tks T (wnd T.cps.toList q)) := by
  rcases Nat.lt_or_ge q T.length with h | h
  · refine .inr ?_
    cases hs : isSg (ch T q) with
    | true => exact .inl ⟨h, rfl, tks_sign h hs⟩
    | false =>
      refine .inr ⟨h, rfl, tks_word h ?_⟩
      unfold isWd
      rw [hs, ha h]; rfl
  · exact .inl ⟨by omega, tks_end h⟩

theorem in_lemma {T : Str} {q : Nat} {cs : List Nat} (hq : q ≤ T.length) (ha : AtTok T q) (hcs : ∀ c ∈ cs, isSg c = true) :
    (decide (q < T.length) && decide (ch T q ∈ cs)) = isIn cs (tks T q) := by
  rcases tok_cases hq ha with ⟨h, e⟩ | ⟨h, hs, e⟩ | ⟨h, hs, e⟩
  · rw [e, decide_eq_false (by omega)]; rfl
  · rw [e, decide_eq_true h, Bool.true_and]; rfl
  · rw [e, decide_eq_true h, Bool.true_and]
    refine decide_eq_false fun hm => ?_
    rw [hcs _ hm] at hs; cases hs

variable {w : World} {mean : ExcName → Option Value} {mg mb : Str → Option Value} {x d : Addr} {h1 h2 : Int} {t1 t2 : Tok} {T : Str} {tt : Tok} {p : Nat} {tp : Tok} {zs : List (Addr × Obj)} {ts : List Tk}

theorem next_is_t {sg : Str} {tsg : Tok} {cs : List Nat} (hz : ∀ q ∈ zs, q.1 ≠ d) (hxd : x ≠ d) (hT : T.length ≤ 1000) (hp : p ≤ T.length) (ht : tks T p = ts) (hsg : sg.cps.toList = cs) (hcs : ∀ c ∈ cs, isSg c = true) :
    Con w mean mg mb 178 [.ref x, .str sg tsg] ((x, instObj 209 d) :: (d, scOf h1 h2 t1 t2 T tt p tp) :: zs) 2 16
      (fun r news' => ∃ (p' : Nat) (tp' : Tok), r = .bool (isIn cs ts) ∧ news' = (x, instObj 209 d) :: (d, scOf h1 h2 t1 t2 T tt p' tp') :: zs ∧ p' ≤ T.length ∧ tks T p' = ts ∧ AtTok T p') NoExc :=
  con_mono (next_is_con hz hxd hT hp) (Nat.le_refl _) (Nat.le_refl _) (fun r n ⟨tp', hr, hn⟩ => ⟨n, fun _ h => h, skp T.cps.toList p, tp', by
    rw [hr, hsg, in_lemma (skp_le hp) (skp_at T p) hcs, tks_skp, ht], hn, skp_le hp, by rw [tks_skp, ht], skp_at T p⟩) fun _ h => h

theorem at_end_t (hz : ∀ q ∈ zs, q.1 ≠ d) (hxd : x ≠ d) (hT : T.length ≤ 1000) (hp : p ≤ T.length) (ht : tks T p = ts) :
    Con w mean mg mb 185 [.ref x] ((x, instObj 209 d) :: (d, scOf h1 h2 t1 t2 T tt p tp) :: zs) 2 16
      (fun r news' => ∃ (p' : Nat) (tp' : Tok), r = .bool ts.isEmpty ∧ news' = (x, instObj 209 d) :: (d, scOf h1 h2 t1 t2 T tt p' tp') :: zs ∧ p' ≤ T.length ∧ tks T p' = ts ∧ AtTok T p') NoExc :=
  con_mono (at_end_con hz hxd hT hp) (Nat.le_refl _) (Nat.le_refl _) (fun r n ⟨tp', hr, hn⟩ => ⟨n, fun _ h => h, skp T.cps.toList p, tp', by
    rw [hr, ← ht, ← tks_skp]
    rcases tok_cases (skp_le hp) (skp_at T p) with ⟨h, e⟩ | ⟨h, hs, e⟩ | ⟨h, hs, e⟩
    · rw [e, decide_eq_true h]; rfl
    · rw [e, decide_eq_false (by omega)]; rfl
    · rw [e, decide_eq_false (by omega)]; rfl, hn, skp_le hp, by rw [tks_skp, ht], skp_at T p⟩) fun _ h => h

theorem is_word_t (hz : ∀ q ∈ zs, q.1 ≠ d) (hxd : x ≠ d) (hT : T.length ≤ 1000) (hp : p ≤ T.length) (ht : tks T p = ts) :
    Con w mean mg mb 199 [.ref x] ((x, instObj 209 d) :: (d, scOf h1 h2 t1 t2 T tt p tp) :: zs) 3 24
      (fun r news' => ∃ (p' : Nat) (tp' : Tok), r = .bool (isWord ts) ∧ news' = (x, instObj 209 d) :: (d, scOf h1 h2 t1 t2 T tt p' tp') :: zs ∧ p' ≤ T.length ∧ tks T p' = ts ∧ AtTok T p') NoExc :=
  con_mono (is_word_con hz hxd hT hp) (Nat.le_refl _) (Nat.le_refl _) (fun r n ⟨tp', hr, hn⟩ => ⟨n, fun _ h => h, skp T.cps.toList p, tp', by
    rw [hr, ← ht, ← tks_skp]
    rcases tok_cases (skp_le hp) (skp_at T p) with ⟨h, e⟩ | ⟨h, hs, e⟩ | ⟨h, hs, e⟩
    · rw [e, decide_eq_false (by omega)]; rfl
    · rw [e, decide_eq_true h, hs]; rfl
    · rw [e, decide_eq_true h, hs]; rfl, hn, skp_le hp, by rw [tks_skp, ht], skp_at T p⟩) fun _ h => h

theorem word_t (hz : ∀ q ∈ zs, q.1 ≠ d) (hxd : x ≠ d) (hT : T.length ≤ 1000) (hp : p ≤ T.length) (ht : tks T p = ts) (hw : isWord ts = true) :
    Con w mean mg mb 206 [.ref x] ((x, instObj 209 d) :: (d, scOf h1 h2 t1 t2 T tt p tp) :: zs) 3 24
      (fun r news' => ∃ (p' : Nat) (tp' tr : Tok), r = .str (wordOf ts) tr ∧ news' = (x, instObj 209 d) :: (d, scOf h1 h2 t1 t2 T tt p' tp') :: zs ∧ p' ≤ T.length ∧ tks T p' = ts.tail) NoExc :=
  con_mono (word_con hz hxd hT hp) (Nat.le_refl _) (Nat.le_refl _) (fun r n ⟨tp', tr, hr, hn⟩ => ⟨n, fun _ h => h, wnd T.cps.toList (skp T.cps.toList p), tp', tr, by
    have e' : tks T (skp T.cps.toList p) = .wd (wordAt T (skp T.cps.toList p)) :: tks T (wnd T.cps.toList (skp T.cps.toList p)) := by
      rw [← ht, ← tks_skp] at hw
      rcases tok_cases (skp_le hp) (skp_at T p) with ⟨h, e⟩ | ⟨h, hs, e⟩ | ⟨h, hs, e⟩
      · rw [e] at hw; cases hw
      · rw [e] at hw; cases hw
      · exact e
    rw [tks_skp, ht] at e'
    rw [hr, slice_word (skp_le hp), e']
    exact ⟨rfl, hn, wnd_le (skp_le hp), rfl⟩⟩) fun _ h => h

theorem sign_t {cs : List Nat} (hz : ∀ q ∈ zs, q.1 ≠ d) (hxd : x ≠ d) (hT : T.length ≤ 1000) (hp : p ≤ T.length) (ha : AtTok T p) (ht : tks T p = ts) (hi : isIn cs ts = true) :
    Con w mean mg mb 192 [.ref x] ((x, instObj 209 d) :: (d, scOf h1 h2 t1 t2 T tt p tp) :: zs) 2 16
      (fun r news' => ∃ (p' : Nat) (tp' tr : Tok), r = .str (tkText ts) tr ∧ news' = (x, instObj 209 d) :: (d, scOf h1 h2 t1 t2 T tt p' tp') :: zs ∧ p' ≤ T.length ∧ tks T p' = ts.tail) NoExc := by
  have e' : p < T.length ∧ tks T p = .sg (ch T p) (sgTwo T p) :: tks T (sgEnd T p) := by
    rw [← ht] at hi
    rcases tok_cases hp ha with ⟨h, e⟩ | ⟨h, hs, e⟩ | ⟨h, hs, e⟩
    · rw [e] at hi; cases hi
    · exact ⟨h, e⟩
    · rw [e] at hi; cases hi
  rw [ht] at e'
  exact con_mono (sign_con hz hxd hT e'.1) (Nat.le_refl _) (Nat.le_refl _) (fun r n ⟨tp', tr, hr, hn⟩ => ⟨n, fun _ h => h, sgEnd T p, tp', tr, by
    rw [hr, e'.2]; rfl, hn, sgEnd_le e'.1, by rw [e'.2]; rfl⟩) fun _ h => h
end Mine
end
/-! NzExc -/
section
open PySem PySem.W PySem.Calls
namespace Mine
set_option maxRecDepth 100000
set_option maxHeartbeats 8000000

section
variable {prog : Program} {w : World} {A : Around} {E : Value → Shared → Prop} {R : Result → Shared → Prop} {h : Heap} {g : Array GenState} {d : Drawn} {t : Nat} {os : OsState}
variable {nm q : Str} {C N : Addr} {bs bm : List Value} {hdct : Bool} {sn : List Str} {sub : List Value} {ab : Bool} {col : Option Bool} {dd : Option Addr} {k0 k1 k2 k3 k5 : Option Value}

theorem my_check_new {M : Model} {rest : List Value} {Q : Unit → Shared → Prop} (hcont : (Value.ref C :: bm).contains (.type "ValueError") = true)
    (hC : h.get? C = some (excClassObj nm q C N bs bm hdct sn sub ab col dd k0 k1 k2 k3 k5 "ValueError.__new__"))
    (hq : Q () ⟨h, g, d, t, os⟩) : wpAny M A (checkBuiltinCall "ValueError.__new__" ⟨.ref C :: rest, []⟩) Q E ⟨h, g, d, t, os⟩ := by
  have Fn := PySem.F.excBase_ValueError
  have hstar := Fn.noStar
  simp only [checkBuiltinCall, Fn.newKind, Fn.newSplit, Fn.newRow]
  repeat (first | refine wpAny_loadPart_at hC ?_ | (refine wpAny_isSubtype_exc hC ?_; rw [hcont]) | refine wpAny_staticBase_exc hC ?_ | refine wpAny_madeBy_exc hC ?_ | simp only [bne_self_eq_false, Bool.false_eq_true, if_false] | wp_step)
  exact hq

theorem my_exc_new {rest : List Value} (hcB : (Value.ref C :: bm).contains (.type "ValueError") = true) (hcA : (Value.ref C :: bm).contains (.type "AttributeError") = false) (hcN : (Value.ref C :: bm).contains (.type "NameError") = false)
    (hC : h.get? C = some (excClassObj nm q C N bs bm hdct sn sub ab col dd k0 k1 k2 k3 k5 "ValueError.__new__"))
    (hq : R (.ok (.ret (.ref (h.objs.size + 1)))) ⟨(h.push { cls := .type "tuple", data := .seq rest.toArray }).push
      { cls := .ref C, data := .fields #[.ref h.objs.size, .none, .none, .none, .bool false, .none] }, g, d, t, os⟩) (hrest : rest.length ≤ sizeLine := by size_fits) :
    codeAny (model prog w) A (.builtin "ValueError.__new__" ⟨.ref C :: rest, []⟩) R ⟨h, g, d, t, os⟩ := by
  have F := PySem.F.excBase_ValueError
  have hends := F.ends
  refine codeAny_builtinAt F.entry ?_
  unfold Builtin.«BaseException.__new__»
  refine wpAt_bind ?_
  show wpAt _ _ _ (stack >>= _) _ _ _
  refine wpAt_bind (wpAt_stack fun p below => wpAt_of_wpAny ?_)
  wp_walk
  refine wpAt_of_wpAny ?_
  rw [F.owner]
  repeat (first | with_reducible refine wpAny_madeHere_exc F.canon hC ?_ | with_reducible refine wpAny_loadPart_at hC ?_ | (with_reducible refine wpAny_isSubtype_exc hC ?_; first | rw [hcB] | rw [hcA] | rw [hcN]) | wp_step)
  show R _ _
  rw [Heap.size_push]
  exact hq

abbrev excObj (C : Addr) (t : Addr) (od : Option Addr) : Obj := { cls := .ref C, dict := od, data := .fields #[.ref t, .none, .none, .none, .bool false, .none] }
abbrev tupObj (vs : List Value) : Obj := { cls := .type "tuple", data := .seq vs.toArray }

theorem my_type_call {rest : List Value} {K : Frag} {fI : Addr} {Q : Fin → Shared → Prop} (X : K.In h) (hcB : (Value.ref C :: bm).contains (.type "ValueError") = true) (hcA : (Value.ref C :: bm).contains (.type "AttributeError") = false) (hcN : (Value.ref C :: bm).contains (.type "NameError") = false)
    (hC : h.get? C = some (excClassObj nm q C N bs bm hdct sn sub ab col dd k0 k1 k2 k3 k5 "ValueError.__new__"))
    (hi : findIn K (.ref C) "__init__" = some (some (.ref fI))) (hf : typeIn K (.ref fI) = some (.type "function"))
    (hq : wpAny (model prog w) A (call (.ref fI) (.ref (h.objs.size + 1) :: rest)) (fun r s' => r = .none ∧ Q (.done (.ret (.ref (h.objs.size + 1)))) s') E ⟨(h.push (tupObj rest)).push (excObj C h.objs.size none), g, d, t, os⟩) (hrest : rest.length ≤ sizeLine := by size_fits) :
    wpAny (model prog w) A (Builtin.«type.__call__» ⟨.ref C :: rest, []⟩) Q E ⟨h, g, d, t, os⟩ := by
  have Fn := PySem.F.excBase_ValueError
  repeat (first | with_reducible refine wpAny_loadPart_at hC ?_ | with_reducible refine wpAny_madeBy_exc hC ?_ | wp_step)
  refine codeAny_call_builtin_code (Code.quiet_builtin _ Fn.quiet) (my_check_new hcB hC ?_)
  refine my_exc_new hcB hcA hcN hC ?_ hrest
  show wpAny _ _ _ _ _ _
  have hC₁ := Heap.get?_push_of_some { cls := .ref C, data := .fields #[.ref h.objs.size, .none, .none, .none, .bool false, .none] }
    (Heap.get?_push_of_some { cls := .type "tuple", data := .seq rest.toArray } hC)
  have X₁ : K.In ((h.push { cls := .type "tuple", data := .seq rest.toArray }).push { cls := .ref C, data := .fields #[.ref h.objs.size, .none, .none, .none, .bool false, .none] }) :=
    X.keeps fun b o e => Heap.get?_push_of_some _ (Heap.get?_push_of_some _ e)
  have hget : ((h.push { cls := .type "tuple", data := .seq rest.toArray }).push
      { cls := .ref C, data := .fields #[.ref h.objs.size, .none, .none, .none, .bool false, .none] }).get? (h.objs.size + 1) = some
      { cls := .ref C, data := .fields #[.ref h.objs.size, .none, .none, .none, .bool false, .none] } := by heap_get
  have hcC : (Value.ref C :: bm).contains (.ref C) = true := by simp
  unfold isInstance
  repeat (first | with_reducible refine wpAny_loadPart_at hget ?_ | (with_reducible refine wpAny_isSubtype_exc hC₁ ?_; rw [hcC]) | wp_step)
  show wpAny _ _ (typeLookup (.ref C) _) _ _ _
  refine (looks_findIn X₁ hi).here ?_
  refine wpAny_holding (wpAny_bind ?_)
  refine (bind_fn X₁ (.ref (h.objs.size + 1)) hf).here ?_
  refine wpAny_bind (wpAny_mono hq (fun r s' hr => ?_) fun _ _ x => x)
  obtain ⟨rfl, hQ⟩ := hr
  wp_walk
  exact hQ

theorem my_call_exc {rest : List Value} {K : Frag} {fI : Addr} {Q : Value → Shared → Prop} (X : K.In h) (hcB : (Value.ref C :: bm).contains (.type "ValueError") = true) (hcA : (Value.ref C :: bm).contains (.type "AttributeError") = false) (hcN : (Value.ref C :: bm).contains (.type "NameError") = false)
    (hC : h.get? C = some (excClassObj nm q C N bs bm hdct sn sub ab col dd k0 k1 k2 k3 k5 "ValueError.__new__"))
    (hi : findIn K (.ref C) "__init__" = some (some (.ref fI))) (hf : typeIn K (.ref fI) = some (.type "function"))
    (hq : wpAny (model prog w) (A.under (.builtin "type.__call__" ⟨.ref C :: rest, []⟩)) (call (.ref fI) (.ref (h.objs.size + 1) :: rest)) (fun r s' => r = .none ∧ Q (.ref (h.objs.size + 1)) s') E ⟨(h.push (tupObj rest)).push (excObj C h.objs.size none), g, d, t, os⟩) (hrest : rest.length ≤ sizeLine := by size_fits) :
    wpAny (model prog w) A (call (.ref C) rest) Q E ⟨h, g, d, t, os⟩ := by
  have f1 := tc_lookup
  have f2 := tc_bind (.ref C)
  have hT : (⟨h, g, d, t, os⟩ : Shared).TypeIs (.ref C) "type" := ⟨_, hC, rfl⟩
  refine wpAny_call (codeAny_of_tree ?_)
  show wpAny _ _ (callAny (.ref C) _) _ _ _
  repeat (any_goals (first | assumption | with_reducible refine wpAny_loadPart_at hC ?_ | wp_step))
  refine ⟨rfl, ?_⟩
  refine codeAny_call_builtin_at (Code.quiet_builtin _ (by decide +kernel)) entry_typeCall (wpAny_check_type_call_sub hC (my_type_call (hrest := hrest) X hcB hcA hcN hC hi hf ?_))
  exact hq

theorem my_check_init {M : Model} {e : Addr} {oe : Obj} {rest : List Value} {Q : Unit → Shared → Prop} (hcB : (Value.ref C :: bm).contains (.type "ValueError") = true)
    (hC : h.get? C = some (excClassObj nm q C N bs bm hdct sn sub ab col dd k0 k1 k2 k3 k5 "ValueError.__new__")) (he : h.get? e = some oe) (hcls : oe.cls = .ref C) (hq : Q () ⟨h, g, d, t, os⟩) :
    wpAny M A (checkBuiltinCall "ValueError.__init__" ⟨.ref e :: rest, []⟩) Q E ⟨h, g, d, t, os⟩ := by
  have F := PySem.F.excBase_ValueError
  have hshort := F.noStar
  simp only [checkBuiltinCall, F.initKind, F.initSplit, F.initRow]
  repeat (first | (with_reducible refine wpAny_loadPart_at he ?_; rw [hcls]) | with_reducible refine wpAny_loadPart_at hC ?_ | (with_reducible refine wpAny_isSubtype_exc hC ?_; rw [hcB]) | wp_step)
  refine wpAny_onRaise ?_
  rw [show ∀ (a b : String) (n : Nat), Bind.check ⟨.positional, "*", "ValueError", .self, [⟨"args", .varPos, false⟩]⟩ a b n (List.map (fun x => x.fst) ({ pos := Value.ref e :: rest } : Args).kw) = pure () from
    fun a b n => check_star_args _ _ _ _ _ _]
  exact wpAny_pure hq

theorem my_base_init {h₀ : Heap} {L : Addr} {m : Str → Option Value} {zs : List (Addr × Obj)} {e t0 : Addr} {od : Option Addr} {v : Value} {Q : Value → Shared → Prop}
    (hcB : (Value.ref C :: bm).contains (.type "ValueError") = true)
    (hC : h.get? C = some (excClassObj nm q C N bs bm hdct sn sub ab col dd k0 k1 k2 k3 k5 "ValueError.__new__"))
    (F : PyProof.Rows.Fr h₀ L h m) (Nn : PyProof.Rows.News h₀ L h ((e, excObj C t0 od) :: zs)) (hz : ∀ p ∈ zs, p.1 ≠ e)
    (hq : ∀ h' t', PyProof.Rows.Fr h₀ L h' m → PyProof.Rows.News h₀ L h' ((t', tupObj [v]) :: (e, excObj C t' od) :: zs) → (∀ p ∈ zs, p.1 < t') → e < t' → Q .none ⟨h', g, d, t, os⟩) :
    wpAny (model prog w) A (call (.builtin "ValueError.__init__") [.ref e, v]) Q E ⟨h, g, d, t, os⟩ := by
  have FV := PySem.F.excBase_ValueError
  have he := (Nn _ (.head _)).1
  have hes := Heap.lt_size he
  refine wpAny_call (codeAny_call_builtin FV.init.plain FV.initEntry (my_check_init hcB hC he rfl ?_))
  have he₁ : (h.push (tupObj [v])).get? e = some (excObj C t0 od) := Heap.get?_push_of_some _ he
  have N1 := Nn.push F (tupObj [v])
  have F1 := F.push (tupObj [v])
  have U := news_upd (f := Obj.mapFields (·.setIfInBounds 0 (Value.ref h.objs.size))) (o' := excObj C h.objs.size od) (pre := [(h.objs.size, tupObj [v])]) (post := zs) (o := excObj C t0 od) (d := e) F1 N1
    (fun p hp => by rcases List.mem_singleton.mp hp with rfl; exact Nat.ne_of_gt hes) hz rfl rfl
  have fin := hq _ h.objs.size U.1 U.2 (fun p hp => Heap.lt_size (Nn p (.tail _ hp)).1) hes
  unfold Builtin.«BaseException.__init__»
  wp_walk
  exact fin
theorem my_base_init2 {h₀ : Heap} {L : Addr} {m : Str → Option Value} {zs : List (Addr × Obj)} {e t0 : Addr} {od : Option Addr} {v : Value} {Q : Value → Shared → Prop}
    (F : PyProof.Rows.Fr h₀ L h m) (Nn : PyProof.Rows.News h₀ L h ((e, excObj C t0 od) :: zs)) (hz : ∀ p ∈ zs, p.1 ≠ e) (hC : h.get? C = some (excClassObj nm q C N bs bm hdct sn sub ab col dd k0 k1 k2 k3 k5 "ValueError.__new__")) (hcB : (Value.ref C :: bm).contains (.type "ValueError") = true) (hq : ∀ h' t', PyProof.Rows.Fr h₀ L h' m → PyProof.Rows.News h₀ L h' ((t', tupObj [v]) :: (e, excObj C t' od) :: zs) → (∀ p ∈ zs, p.1 < t') → e < t' → Q .none ⟨h', g, d, t, os⟩) :
    wpAny (model prog w) A (call (.builtin "ValueError.__init__") [.ref e, v]) Q E ⟨h, g, d, t, os⟩
  := my_base_init hcB hC F Nn hz hq
end
end Mine
end
/-! NzExc2 -/
section
open PySem PySem.W PySem.Calls PyProof.Rows Builtin Builtin.ObjectAttr
namespace Mine
set_option maxRecDepth 100000
set_option maxHeartbeats 8000000

section
variable {prog : Program} {w : World} {A : Around} {K : Frag} {C x : Addr} {s : Shared} {h₀ : Heap} {L : Addr} {m : Str → Option Value} {news : List (Addr × Obj)} {R : Result → Shared → Prop}

theorem exc_osa_open {ox : Obj} {od : Option Obj} {name : Str} {tk : Tok} {v : Value} {cd : ClassData} (X : K.In s.heap) (I : InstAt s.heap x ox C od) (hc : clsIn K C = some cd) (ne : cd.mro.isEmpty = false) (hob : cd.mro.contains (.type "object") = true)
    (hp : refuseLoop (.ref x) "__setattr__" cd.mro = pure ()) (ht : takerIn K C name = some none)
    (h : ∀ b, wpAny (model prog w) A.in1 (storeInOwnDict (.ref x) (.ref C) (.str name tk) name v b)
      (fun fin s' => match fin with | .done f => R (.ok f) s' | .again c' => c'.quiet = true ∧ codeAny (model prog w) A c' R s') (fun e s' => R (.error e) s') s) :
    codeAny (model prog w) A (.call (.builtin "object.__setattr__") ⟨[.ref x, .str name tk, v], []⟩) R s := by
  have SF := PySem.F.store_object
  have sub : Looks (model prog w) s.heap (isInstance (.ref x) (.type "object")) true := I.type.andThen (looks_mroIn X (by unfold mroIn; rw [hc, Option.bind_some, if_neg (by rw [ne]; decide), hob]))
  refine codeAny_call_builtin SF.slot.plain SF.entry (@check_slot (model prog w) _ _ s "object.__setattr__" "object" "__setattr__" (.ref x) [.str name tk, v] [] _ SF.kind SF.split sub (SF.args (.ref x) (.str name tk) v) ?_)
  obtain ⟨attr, ha, hr⟩ := Option.bind_eq_some_iff.mp ht
  have hm : Looks (model prog w) s.heap (mroOf (.ref C)) cd.mro := (looks_clsIn X hc).andThen .now
  have L3 : Looks (model prog w) s.heap (storeTaker? attr) none := by
    cases attr with
    | none => cases hr; exact .now
    | some a =>
      obtain ⟨b, hb, hbb⟩ := Option.map_eq_some_iff.mp hr
      refine (looks_takesIn X hb).andThen ?_
      cases b with
      | false => exact .now
      | true => cases hbb
  rw [osa_eq, refuse_eq]
  refine wpAny_bind (wpAny_bind (I.type.here (wpAny_bind (hm.here ?_))))
  rw [hp]
  refine wpAny_pure (wpAny_bind (I.type.here (wpAny_bind ((looks_findIn X ha).here (wpAny_bind (L3.here ?_))))))
  exact h _

theorem store_dict_tail {od od' : Obj} {dx : Addr} {name : Str} {tk : Tok} {v : Value} {pre post : List (Addr × Obj)} {es : List DictEntry} {n : Nat} {E : Value → Shared → Prop} {Q : PySem.Fin → Shared → Prop} (F : Fr h₀ L s.heap m) (N : News h₀ L s.heap (pre ++ (dx, od) :: post))
    (hl : (lookIn name od).isSome = true) (h1 : ∀ p ∈ pre, p.1 ≠ dx) (h2 : ∀ p ∈ post, p.1 ≠ dx)
    (e : Obj.putName name (PyData.keyHash w.params name) (.str name s.toks) v od = od') (e' : od'.data = .dict es.toArray n) (hz : es.length ≤ 1000)
    (h : ∀ h', Fr h₀ L h' m → News h₀ L h' (pre ++ (dx, od') :: post) → Q (.done (.ret .none)) { s with heap := h', toks := s.toks + 1 }) :
    wpAny (model prog w) A (storeInDict dx (.str name tk) name v) Q E s := by
  obtain ⟨U1, U2⟩ := news_upd (f := Obj.putName name (PyData.keyHash w.params name) (.str name s.toks) v) F N h1 h2 e (by obtain ⟨_, _, dd, _⟩ := od'; cases e'; rfl)
  have D := (N (dx, od) (by simp)).1
  have D' := (U2 (dx, od') (by simp)).1
  unfold storeInDict newKeyGuard
  refine wpAny_bind (wpAny_pure (wpAny_bind ?_))
  unfold nsSet
  refine wpAny_bind (wpAny_bind (wpAny_askSetting (wpAny_pure (wpAny_bind (wpAny_mkText (wpAny_bind (wpAny_loadPart D ?_)))))))
  unfold lookIn at hl
  split at hl
  · rename_i es₀ n₀ q
    rw [q]
    dsimp only
    have c : (!es₀.any (·.key.isStr name) && es₀.any (·.refKey)) = false := by
      rw [← Array.any_toList, ← Array.any_toList]
      split at hl
      · rename_i en he
        rw [List.any_eq_true.mpr ⟨en, List.mem_of_find?_eq_some he, List.find?_some he⟩]; rfl
      · split at hl
        · cases hl
        · rename_i z; rw [Bool.not_eq_true] at z; rw [z, Bool.and_false]
    rw [aRefKeyMayBeTheName_at, c]
    refine wpAny_updatePart D ?_
    refine wpAny_bind (wpAny_lookBehind D' (by rw [e']; exact pastItsLine_dict (by rw [List.size_toArray, sizeLine_eq]; omega)) ?_)
    exact wpAny_pure (h _ U1 U2)
  · cases hl

/-- the first attribute of an exception: its dict is made -/
theorem exc_set_new {t : Addr} {name : Str} {v : Value} {cd : ClassData} {pre post : List (Addr × Obj)} {E : Value → Shared → Prop} {Q : Unit → Shared → Prop} (F : Fr h₀ L s.heap m) (X₀ : K.In h₀) (N : News h₀ L s.heap (pre ++ (x, excObj C t none) :: post))
    (p1 : ∀ p ∈ pre, p.1 ≠ x) (p2 : ∀ p ∈ post, p.1 ≠ x)
    (hs : findIn K (.ref C) "__setattr__" = some (some (.builtin "object.__setattr__"))) (hc : clsIn K C = some cd) (ne : cd.mro.isEmpty = false) (hob : cd.mro.contains (.type "object") = true) (hdict : cd.hasDict = true)
    (hp : refuseLoop (.ref x) "__setattr__" cd.mro = pure ()) (ht : takerIn K C name = some none)
    (h : ∀ h' d h1 t1, Fr h₀ L h' m → News h₀ L h' ((d, dictOf [⟨h1, .str name t1, v⟩] 1) :: (pre ++ (x, excObj C t (some d)) :: post)) → (∀ p ∈ pre ++ (x, excObj C t none) :: post, p.1 < d) → Q () { s with heap := h', toks := s.toks + 2 }) :
    wpAny (model prog w) A (setAttr (.ref x) name v) Q E s := by
  have X := X₀.keeps F.keep
  have hx := (N (x, excObj C t none) (by simp)).1
  have I : InstAt s.heap x (excObj C t none) C none := ⟨hx, rfl, rfl, trivial⟩
  refine set_plain X I hs (exc_osa_open (s := { s with toks := s.toks + 1 }) X I hc ne hob hp ht fun b => ?_)
  obtain ⟨hh, g, dr, tk, os⟩ := s
  have F1 : Fr h₀ L (hh.push emptyDict) m := F.push emptyDict
  have N1 : News h₀ L (hh.push emptyDict) (((hh.objs.size, emptyDict) :: pre) ++ (x, excObj C t none) :: post) := N.push F emptyDict
  have hlt : ∀ p ∈ pre ++ (x, excObj C t none) :: post, p.1 < hh.objs.size := fun p hp => Heap.lt_size (N p hp).1
  have hxs : x < hh.objs.size := hlt (x, excObj C t none) (by simp)
  obtain ⟨F2, N2⟩ := news_upd (f := fun o => { o with dict := some hh.objs.size }) (o' := excObj C t (some hh.objs.size)) F1 N1
    (fun p hp => by
      rcases List.mem_cons.mp hp with rfl | hp
      · exact Nat.ne_of_gt hxs
      · exact p1 p hp) p2 rfl rfl
  unfold storeInOwnDict ownDictForStores instanceDict
  refine wpAny_bind (wpAny_pure ?_)
  refine wpAny_bind ?_
  refine wpAny_bind (wpAny_loadPart hx ?_)
  refine wpAny_bind ((looks_clsIn X hc) _ _ _ _ (fun _ _ e => e) ?_)
  rw [hdict]
  refine wpAny_bind (wpAny_alloc ?_)
  refine wpAny_bind (wpAny_update (N1 (x, excObj C t none) (by simp)).1 ?_)
  refine wpAny_pure (a := some hh.objs.size) ?_
  refine store_dict_tail (s := ⟨_, g, dr, tk + 1, os⟩) (pre := []) (od := emptyDict) (es := [⟨PyData.keyHash w.params name, .str name (tk + 1), v⟩]) (n := 1) F2 N2 rfl (fun p hp => nomatch hp)
    (fun p hp => ?_) rfl rfl (Nat.le_of_ble_eq_true rfl) fun h' F' N' => ?_
  · have hp' : p ∈ pre ++ (x, excObj C t (some hh.objs.size)) :: post := hp
    rcases List.mem_append.mp hp' with q | q
    · exact Nat.ne_of_lt (hlt p (List.mem_append_left _ q))
    · rcases List.mem_cons.mp q with rfl | q
      · exact Nat.ne_of_lt hxs
      · exact Nat.ne_of_lt (hlt p (List.mem_append_right _ (.tail _ q)))
  · exact h h' hh.objs.size _ _ F' N' hlt

/-- a further attribute of an exception -/
theorem exc_set_more {t dx : Addr} {name : Str} {v : Value} {cd : ClassData} {pre post : List (Addr × Obj)} {es es' : List DictEntry} {n n' : Nat} {E : Value → Shared → Prop} {Q : Unit → Shared → Prop} (F : Fr h₀ L s.heap m) (X₀ : K.In h₀) (N : News h₀ L s.heap (pre ++ (dx, dictOf es n) :: post))
    (p1 : ∀ p ∈ pre, p.1 ≠ dx) (p2 : ∀ p ∈ post, p.1 ≠ dx) (hin : (x, excObj C t (some dx)) ∈ pre ++ (dx, dictOf es n) :: post)
    (hs : findIn K (.ref C) "__setattr__" = some (some (.builtin "object.__setattr__"))) (hc : clsIn K C = some cd) (ne : cd.mro.isEmpty = false) (hob : cd.mro.contains (.type "object") = true) (hdict : cd.hasDict = true)
    (hp : refuseLoop (.ref x) "__setattr__" cd.mro = pure ()) (ht : takerIn K C name = some none) (hl : (getL name es).isSome = true)
    (e : (putL name (PyData.keyHash w.params name) (.str name (s.toks + 1)) v es, putN name es n) = (es', n')) (hz : es'.length ≤ 1000)
    (h : ∀ h', Fr h₀ L h' m → News h₀ L h' (pre ++ (dx, dictOf es' n') :: post) → Q () { s with heap := h', toks := s.toks + 2 }) :
    wpAny (model prog w) A (setAttr (.ref x) name v) Q E s := by
  have X := X₀.keeps F.keep
  have hx := (N _ hin).1
  have hd := (N (dx, dictOf es n) (by simp)).1
  have I : InstAt s.heap x (excObj C t (some dx)) C (some (dictOf es n)) := ⟨hx, rfl, rfl, hd⟩
  obtain ⟨e1, e2⟩ := Prod.mk.inj e
  refine set_plain X I hs (exc_osa_open (s := { s with toks := s.toks + 1 }) X I hc ne hob hp ht fun b => ?_)
  obtain ⟨hh, g, dr, tk, os⟩ := s
  unfold storeInOwnDict ownDictForStores instanceDict
  refine wpAny_bind (wpAny_pure ?_)
  refine wpAny_bind ?_
  refine wpAny_bind (wpAny_loadPart hx ?_)
  refine wpAny_bind ((looks_clsIn X hc) _ _ _ _ (fun _ _ e => e) ?_)
  rw [hdict]
  refine wpAny_pure (a := some dx) ?_
  exact store_dict_tail (s := ⟨_, g, dr, tk + 1, os⟩) (od := dictOf es n) F N hl p1 p2 (by rw [putName_dict, e1, e2]) rfl hz fun h' F' N' => h h' F' N'
end
end Mine
end
/-! NzFault -/
section
open PySem PySem.W PySem.Spec PySem.Calls PyProof.Rows
namespace Mine
theorem word_NzFault_0 : True := by
  k_with_none
  w_top off
  trivial
set_option maxRecDepth 100000
set_option maxHeartbeats 8000000
theorem fill_fault : (fun (_ : PySem.W.OpenLaw) (_ : Params → Frag) => True) PySem.Challenge.rw_nz0213_01 hd.heap_1 := by
  k_fill
  trivial
theorem meta_VE : typeOf (.type "ValueError") = pure (.type "type") := by kernel_rfl
theorem word_NzFault_1 : True := by
  k_with "my getMethod type:ValueError" => (k_here; refine method_type (by k_asm) (by k_asm) (by exact meta_VE) (by decide +kernel) (by k_dflt k_is) (by k_handed) ?_)
  trivial
theorem word_NzFault_2 : True := by
  k_with "my call builtin:ValueError.__init__" => (k_here; k_dflt (refine my_base_init2 (by k_asm) (by k_asm) (by assumption) (by exact (Frag.In.keeps (by k_asm) (Fr.keep (by k_asm))) _ _ (by k_is)) (by decide +kernel) ?_; intro h9 t9 F9 N9 l9 l8; k_lt2 l8; (try k_sweep)))
  trivial
theorem word_NzFault_3 : True := by
  k_with "my setAttr ref" => (k_here; k_dflt (refine exc_set_new (pre := [_]) (by k_asm) (by k_asm) (by k_asm) (by k_all) (by k_all) (by k_is) (by k_is) (by exact rfl) (by decide +kernel) (by exact rfl) (by exact ((refuseLoop_ref _ _ _ _).trans ((refuseLoop_ref _ _ _ _).trans (PySem.F.store_ValueError.passes _)))) (by k_is) ?_; intro h9 d9 h19 t19 F9 N9 l9; (try dsimp only [List.cons_append, List.nil_append] at N9); (try k_sweep)))
  trivial


theorem be_init64 {w : World} {mean : ExcName → Option Value} {mg mb : Str → Option Value} {e t : Addr} {R : Str} {tr : Tok} {zs : List (Addr × Obj)}
    (hz : ∀ q ∈ zs, q.1 ≠ e) :
    Con w mean mg mb 29 [.ref e, .str R tr] ((e, excObj 64 t none) :: zs) 1 16
      (fun r news' => ∃ (t' dx : Addr) (h1 : Int) (t1 : Tok), r = .none ∧ news' = (dx, dictOf [⟨h1, .str (PySem.Str.ofString "reason") t1, .str R tr⟩] 1) :: (t', tupObj [.str R tr]) :: (e, excObj 64 t' (some dx)) :: zs ∧ @LT.lt Nat _ t' dx ∧ @LT.lt Nat _ e dx ∧ (∀ p ∈ zs, p.1 ≠ dx) ∧ @LT.lt Nat _ e t' ∧ (∀ p ∈ zs, p.1 ≠ t')) NoExc := by
  intro dp un gd cn cs a ccd cl outer A₀ base h₀ L m s Q E B F X N TT hk hdp hun ret exc
  refine wpAny_call ?_
  k_dflt (refine' code_def ?k1 ?k2 ?k3 ?k4 ?k5 ?kA ?kF ?kK ?k6 ?k7 ?k8 ?k9 ?kB ?_ ?c2 ?c3 ?c4 ?c5; (case kA => exact rfl); (case kF => exact rfl); (case kK => assumption); (case k1 => k_asm); (case k2 => k_asm); (case k3 => k_asm); (case k4 => k_asm); (case k5 => k_asm); (case k6 => k_is); (case k7 => k_is); (case k8 => ktr_room); (case k9 => first | exact BindsTo.of_eq rfl | exact binds_K (by k_in) rfl (by k_is) rfl rfl rfl); (case c5 => decide); (case kB => exact locs rfl); (case c2 => exact rfl); (case c3 => exact rfl); (case c4 => exact rfl); k_whole; intro g' L' h' FG' F' N' B' X' T'; (try dsimp only); (try k_fold))
  rename Fr _ _ _ _ => F1
  replace F1 : Fr _ _ _ (fun y => List.lookup y [(PySem.Str.ofString "reason", .str R tr), (PySem.Str.ofString "self", .ref e)]) := F1
  k_steps
  rename (∀ p ∈ _ ++ _, _) => la
  rename (∀ p ∈ zs, _) => lb
  refine ret _ _ _ _ (by assumption) (by assumption) ⟨_, _, _, _, rfl, rfl, ltN (la _ (.head _)), ltN (la _ (.tail _ (.head _))), fun p hp => Nat.ne_of_lt (la _ (.tail _ (.tail _ hp))), by assumption, fun p hp => Nat.ne_of_lt (lb _ hp)⟩

theorem be_init45 {w : World} {mean : ExcName → Option Value} {mg mb : Str → Option Value} {e t : Addr} {R : Str} {tr : Tok} {zs : List (Addr × Obj)}
    (hz : ∀ q ∈ zs, q.1 ≠ e) :
    Con w mean mg mb 29 [.ref e, .str R tr] ((e, excObj 45 t none) :: zs) 1 16
      (fun r news' => ∃ (t' dx : Addr) (h1 : Int) (t1 : Tok), r = .none ∧ news' = (dx, dictOf [⟨h1, .str (PySem.Str.ofString "reason") t1, .str R tr⟩] 1) :: (t', tupObj [.str R tr]) :: (e, excObj 45 t' (some dx)) :: zs ∧ @LT.lt Nat _ t' dx ∧ @LT.lt Nat _ e dx ∧ (∀ p ∈ zs, p.1 ≠ dx) ∧ @LT.lt Nat _ e t' ∧ (∀ p ∈ zs, p.1 ≠ t')) NoExc := by
  intro dp un gd cn cs a ccd cl outer A₀ base h₀ L m s Q E B F X N TT hk hdp hun ret exc
  refine wpAny_call ?_
  k_dflt (refine' code_def ?k1 ?k2 ?k3 ?k4 ?k5 ?kA ?kF ?kK ?k6 ?k7 ?k8 ?k9 ?kB ?_ ?c2 ?c3 ?c4 ?c5; (case kA => exact rfl); (case kF => exact rfl); (case kK => assumption); (case k1 => k_asm); (case k2 => k_asm); (case k3 => k_asm); (case k4 => k_asm); (case k5 => k_asm); (case k6 => k_is); (case k7 => k_is); (case k8 => ktr_room); (case k9 => first | exact BindsTo.of_eq rfl | exact binds_K (by k_in) rfl (by k_is) rfl rfl rfl); (case c5 => decide); (case kB => exact locs rfl); (case c2 => exact rfl); (case c3 => exact rfl); (case c4 => exact rfl); k_whole; intro g' L' h' FG' F' N' B' X' T'; (try dsimp only); (try k_fold))
  rename Fr _ _ _ _ => F1
  replace F1 : Fr _ _ _ (fun y => List.lookup y [(PySem.Str.ofString "reason", .str R tr), (PySem.Str.ofString "self", .ref e)]) := F1
  k_steps
  rename (∀ p ∈ _ ++ _, _) => la
  rename (∀ p ∈ zs, _) => lb
  refine ret _ _ _ _ (by assumption) (by assumption) ⟨_, _, _, _, rfl, rfl, ltN (la _ (.head _)), ltN (la _ (.tail _ (.head _))), fun p hp => Nat.ne_of_lt (la _ (.tail _ (.tail _ hp))), by assumption, fun p hp => Nat.ne_of_lt (lb _ hp)⟩
end Mine
end
/-! NzFault2 -/
section
open PySem PySem.W PySem.Spec PySem.Calls PyProof.Rows
namespace Mine
theorem word_NzFault2_0 : True := by
  k_with_none
  w_top off
  trivial
set_option maxRecDepth 100000
set_option maxHeartbeats 8000000
theorem fill_fault2 : (fun (_ : PySem.W.OpenLaw) (_ : Params → Frag) => True) PySem.Challenge.rw_nz0213_01 hd.heap_1 := by
  k_fill
  trivial
theorem word_NzFault2_1 : True := by
  k_with "my call ref" => (k_here; (with_reducible show wpAny _ _ (call (Value.ref 29) _ _) _ _ _); k_dflt (refine con_go (by k_asm) (by exact fun _ hp => hp) (by k_asm) (by k_asm) (by k_asm) (by k_asm) (by exact rfl) (be_init64 (by assumption)) (by ((try simp only [depth_deeper, ktrTop]); omega)) (by ((try simp only [units_deeper, ktrTop]); omega)) (by exact fun _ hc => hc.elim) ?_; intro r9 news9 h9 tk9 F9 N9 hP9; refine Exists.elim hP9 ?_; clear hP9; intro t9 hP9; refine Exists.elim hP9 ?_; clear hP9; intro d9 hP9; refine Exists.elim hP9 ?_; clear hP9; intro h19 hP9; refine Exists.elim hP9 ?_; clear hP9; intro t19 hP9; refine And.elim ?_ hP9; clear hP9; intro hr9 hP9; refine And.elim ?_ hP9; clear hP9; intro hn9 hP9; subst hr9; subst hn9; refine And.elim ?_ hP9; clear hP9; intro a9 hP9; refine And.elim ?_ hP9; clear hP9; intro b9 hP9; refine And.elim ?_ hP9; clear hP9; intro c9 hP9; (try k_sweep); (try dsimp only); (try k_fold)))
  trivial

theorem word_NzFault2_2 : True := by
  k_with "my setAttr ref" => (k_here; k_dflt (refine exc_set_more (pre := []) (by k_asm) (by k_asm) (by k_asm) (by exact List.forall_mem_nil _) (by k_all) (by k_mem) (by k_is) (by k_is) (by exact rfl) (by decide +kernel) (by exact rfl) (by exact ((refuseLoop_ref _ _ _ _).trans ((refuseLoop_ref _ _ _ _).trans (PySem.F.store_ValueError.passes _)))) (by k_is) (by k_get) (by k_put) (by exact Nat.le_of_ble_eq_true rfl) ?_; intro h9 F9 N9; (try dsimp only [List.cons_append, List.nil_append] at N9); (try k_sweep)))
  trivial
theorem bt_init {w : World} {mean : ExcName → Option Value} {mg mb : Str → Option Value} {e t : Addr} {R : Str} {tr ti : Tok} {zs : List (Addr × Obj)}
    (hz : ∀ q ∈ zs, q.1 ≠ e) (hR : R.length ≤ 2000) :
    Con w mean mg mb 61 [.ref e, .int 1 ti, .str R tr] ((e, excObj 64 t none) :: zs) 3 32
      (fun r news' => r = .none ∧ ∃ (t' dx : Addr) (od ot : Obj), news' = (dx, od) :: (t', ot) :: (e, excObj 64 t' (some dx)) :: zs) NoExc := by
  intro dp un gd cn cs a ccd cl outer A₀ base h₀ L m s Q E B F X N TT hk hdp hun ret exc
  refine wpAny_call ?_
  k_dflt ktr_enter
  rename Fr _ _ _ _ => F1
  replace F1 : Fr _ _ _ (fun y => List.lookup y [(PySem.Str.ofString "reason", .str R tr), (PySem.Str.ofString "line", .int 1 ti), (PySem.Str.ofString "self", .ref e)]) := F1
  k_steps
  exact ret _ _ _ _ (by assumption) (by assumption) ⟨rfl, _, _, _, _, rfl⟩

/-- making a BadText -/
theorem call_bt {w : World} {mean : ExcName → Option Value} {mg mb : Str → Option Value} {R : Str} {tr ti : Tok} (hR : R.length ≤ 2000)
    {dp un : Nat} {gd : Option (List Code)} {cn : Str} {cs : Scope} {a : Addr} {ccd : Value} {cl : List (Str × Addr)} {outer : List Env} {A₀ : Around} {base h₀ : Heap} {L : Addr} {m : Str → Option Value} {s : Shared} {zs : List (Addr × Obj)}
    {Q E : Value → Shared → Prop}
    (B : Below A₀ base outer h₀) (F : Fr h₀ L s.heap m) (X : (hd.heap_1 w.params).In h₀) (N : News h₀ L s.heap zs) (TT : TopW mean mg mb h₀) (hk : cs.kind = .function) (hdp : dp + 5 < recursionLimit) (hun : un + 40 < cLine)
    (ret : ∀ (e t dx : Addr) (od ot : Obj) h' tk', Fr h₀ L h' m → News h₀ L h' ((e, excObj 64 t (some dx)) :: (dx, od) :: (t, ot) :: zs) → (∀ p ∈ zs, @LT.lt Nat _ p.1 e) → Q (.ref e) { s with heap := h', toks := tk' }) :
    wpAny (model Pg w) (ktrTop dp un gd cn cs L a ccd cl outer) (call (.ref 64) [.int 1 ti, .str R tr]) Q E s := by
  obtain ⟨hh, g, dr, tk, os⟩ := s
  have N1 : News h₀ L (hh.push (tupObj [.int 1 ti, .str R tr])) _ := N.push F (tupObj [.int 1 ti, .str R tr])
  have F1 : Fr h₀ L (hh.push (tupObj [.int 1 ti, .str R tr])) m := F.push _
  have N2 := N1.push F1 (excObj 64 hh.objs.size none)
  have F2 := F1.push (excObj 64 hh.objs.size none)
  rw [Heap.size_push] at N2
  have hlt : ∀ p ∈ zs, @LT.lt Nat _ p.1 hh.objs.size := fun p hp => Heap.lt_size (N p hp).1
  refine' my_call_exc (fI := 61) (C := 64) ((Frag.In.keeps X F.keep)) ?b ?aa ?n ?c ?i ?f ?_ (by show 2 ≤ sizeLine; decide)
  case c => exact (Frag.In.keeps X F.keep) _ _ (by k_is)
  case b => decide +kernel
  case aa => decide +kernel
  case n => decide +kernel
  case i => k_is
  case f => k_is
  refine' con_use (bt_init (zs := (hh.objs.size, tupObj [.int 1 ti, .str R tr]) :: zs) (fun q hq => ?_) hR) B F2 X N2 TT hk (fun _ hp => hp) ?_ ?_ (fun r news' h' tk' F' N' hP => ?_) (fun _ hc => hc.elim)
  · rcases List.mem_cons.mp hq with rfl | hq
    · exact Nat.ne_of_lt (Nat.lt_succ_self _)
    · exact Nat.ne_of_lt (Nat.lt_succ_of_lt (hlt q hq))
  · show dp + 1 + 3 < recursionLimit; omega
  · show un + 1 + 32 < cLine; omega
  · obtain ⟨rfl, t', dx, od, ot, rfl⟩ := hP
    refine ⟨rfl, ret _ t' dx od ot h' tk' F' (fun p hp => N' p ?_) fun p hp => Nat.lt_succ_of_lt (hlt p hp)⟩
    simp only [List.mem_cons] at hp ⊢
    rcases hp with h | h | h | h <;> simp [h]

theorem call_btN {w : World} {mean : ExcName → Option Value} {mg mb : Str → Option Value} {R : Str} {tr ti : Tok} {dp un : Nat} {gd : Option (List Code)} {cn : Str} {cs : Scope} {a : Addr} {ccd : Value} {cl : List (Str × Addr)} {outer : List Env} {A₀ : Around} {base h₀ : Heap} {L : Addr} {m : Str → Option Value} {s : Shared} {zs : List (Addr × Obj)} {Q E : Value → Shared → Prop}
    (hR : R.length ≤ 2000) (N : News h₀ L s.heap zs) (B : Below A₀ base outer h₀) (F : Fr h₀ L s.heap m) (X : (hd.heap_1 w.params).In h₀) (TT : TopW mean mg mb h₀) (hk : cs.kind = .function) (hdp : dp + 5 < recursionLimit) (hun : un + 40 < cLine) (ret : ∀ (e t dx : Addr) (od ot : Obj) h' tk', Fr h₀ L h' m → News h₀ L h' ((e, excObj 64 t (some dx)) :: (dx, od) :: (t, ot) :: zs) → (∀ p ∈ zs, @LT.lt Nat _ p.1 e) → Q (.ref e) { s with heap := h', toks := tk' }) :
    wpAny (model Pg w) (ktrTop dp un gd cn cs L a ccd cl outer) (call (.ref 64) [.int 1 ti, .str R tr]) Q E s
  := call_bt hR B F X N TT hk hdp hun ret
theorem word_NzFault2_3 : True := by
  k_with "my call ref" => (k_here; (with_reducible show wpAny _ _ (call (Value.ref 64) _ _) _ _ _); k_dflt (refine call_btN (by first | assumption | omega) (by k_asm) (by k_asm) (by k_asm) (by k_asm) (by k_asm) (by exact rfl) (by ((try simp only [depth_deeper, ktrTop]); omega)) (by ((try simp only [units_deeper, ktrTop]); omega)) ?_; intro e9 t9 d9 od9 ot9 h9 tk9 F9 N9 l9; (try k_sweep); (try dsimp only); (try k_fold)))
  trivial

theorem fault_con {w : World} {mean : ExcName → Option Value} {mg mb : Str → Option Value} {R : Str} {tr : Tok} {zs : List (Addr × Obj)} (hR : R.length ≤ 2000) :
    Con w mean mg mb 220 [.str R tr] zs 6 48
      (fun r news' => ∃ (e t dx : Addr) (od ot : Obj), r = .ref e ∧ news' = (e, excObj 64 t (some dx)) :: (dx, od) :: (t, ot) :: zs ∧ ∀ p ∈ zs, @LT.lt Nat _ p.1 e) NoExc := by
  intro dp un gd cn cs a ccd cl outer A₀ base h₀ L m s Q E B F X N TT hk hdp hun ret exc
  refine wpAny_call ?_
  k_dflt ktr_enter
  rename Fr _ _ _ _ => F1
  replace F1 : Fr _ _ _ (fun y => List.lookup y [(PySem.Str.ofString "reason", .str R tr)]) := F1
  k_steps
  exact ret _ _ _ _ (by assumption) (by assumption) ⟨_, _, _, _, _, rfl, rfl, by assumption⟩
end Mine
end
/-! NzRaise -/
section
open PySem PySem.W PySem.Calls PyProof.Rows
namespace Mine
set_option maxRecDepth 100000
set_option maxHeartbeats 8000000

/-! raise of an exception that is made -/
def RaiseRest (M : Model) (A : Around) (env : Env) (E : Value → Shared → Prop) (v : Value) (s : Shared) : Prop :=
  ∀ Q : Flow → Shared → Prop, wpAny M A (raiseStmt env (some (pure v)) none) Q E s

theorem raise_open {M : Model} {A : Around} {E : Value → Shared → Prop} {s : Shared} {env : Env} {x : PySem.Expr} {pos : Pos} {Q : Flow → Shared → Prop}
    (h : wpAny M A (eval x env) (fun v s₁ => RaiseRest M A env E v s₁) E s) : wpAny M A (exec (.Raise (some x) none pos) env) Q E s := by
  rw [arm_exec_Raise]
  have key : wpAny M A (raiseStmt env (some (do let v ← eval x env; standAt pos; pure v)) none) Q E s := by
    unfold raiseStmt
    refine wpAny_bind (wpAny_bind (wpAny_mono h (fun v s₁ h₁ => wpAny_bind (wpAny_standAt (wpAny_pure ?_))) fun _ _ y => y))
    have := h₁ Q
    unfold raiseStmt at this
    exact this
  exact wpAny_bind (wpAny_standAt key)

section
variable {M : Model} {A : Around} {E : Value → Shared → Prop} {h : Heap} {g : Array GenState} {d : Drawn} {t : Nat} {os : OsState}
variable {nm q : Str} {C N : Addr} {bs bm : List Value} {hdct : Bool} {sn : List Str} {sub : List Value} {ab : Bool} {col : Option Bool} {dd : Option Addr} {k0 k1 k2 k3 k5 : Option Value} {newId : String}
theorem raise_done {env : Env} {e t0 : Addr} {od : Option Addr} (hh : A.handled = none) (hC : h.get? C = some (excClassObj nm q C N bs bm hdct sn sub ab col dd k0 k1 k2 k3 k5 newId)) (hcB : (Value.ref C :: bm).contains (.type "BaseException") = true) (he : h.get? e = some (excObj C t0 od)) (hE : E (.ref e) ⟨h, g, d, t, os⟩) :
    RaiseRest M A env E (.ref e) ⟨h, g, d, t, os⟩ := by
  intro Q
  unfold raiseStmt
  refine wpAny_bind (wpAny_pure ?_)
  repeat (first | with_reducible refine wpAny_loadPart_at he ?_ | with_reducible refine wpAny_loadPart_at hC ?_ | (with_reducible refine wpAny_isSubtype_exc hC ?_; rw [hcB]) | wp_step)
  exact wpAny_raiseNew_none hh hE
end
end Mine
end
/-! NzTree -/
section
open PySem PySem.W PySem.Spec PySem.Calls PyProof.Rows
namespace Mine
theorem word_NzTree_0 : True := by
  k_with_none
  w_top off
  trivial
set_option maxRecDepth 100000
set_option maxHeartbeats 8000000
theorem fill_tree : (fun (_ : PySem.W.OpenLaw) (_ : Params → Frag) => True) PySem.Challenge.rw_nz0213_01 hd.heap_1 := by
  k_fill
  trivial
theorem news_swap2 {h₀ h : Heap} {L : Addr} {a b p1 p2 : Addr × Obj} {zs : List (Addr × Obj)} (N : News h₀ L h (a :: b :: p1 :: p2 :: zs)) : News h₀ L h (p1 :: p2 :: a :: b :: zs) :=
  fun p hp => N p (by
    simp only [List.mem_cons] at hp ⊢
    rcases hp with h | h | h | h | h <;> simp [h])

theorem back_con {w : World} {mean : ExcName → Option Value} {mg mb : Str → Option Value} {v : Value} {p1 p2 : Addr × Obj} {zs : List (Addr × Obj)} :
    Con w mean mg mb 146 [v] (p1 :: p2 :: zs) 6 48
      (fun r news' => ∃ (a da : Addr) (h0 : Int) (t0 : Tok), r = .ref a ∧ news' = p1 :: p2 :: ((a, instObj 146 da) :: (da, dictOf [⟨h0, .str (PySem.Str.ofString "command") t0, v⟩] 1) :: zs) ∧ (∀ p ∈ p1 :: p2 :: zs, @LT.lt Nat _ p.1 da) ∧ @LT.lt Nat _ da a) NoExc := by
  intro dp un gd cn cs a ccd cl outer A₀ base h₀ L m s Q E B F X N TT hk hdp hun ret exc
  k_dflt (refine' call_cls ?k1 ?k2 ?k3 ?k4 ?k5 ?k6 ?_; (case k1 => k_asm); (case k2 => k_asm); (case k3 => k_asm); (case k4 => k_is); (case k5 => k_is); (case k6 => k_is); k_whole; intro x' d' h' F' N' l1 l2)
  have hne : ∀ p ∈ p1 :: p2 :: zs, p.1 ≠ d' := fun p hp => Nat.ne_of_lt (l1 p hp)
  k_lt2 l2
  k_dflt (refine' code_def ?k1 ?k2 ?k3 ?k4 ?k5 ?kA ?kF ?kK ?k6 ?k7 ?k8 ?k9 ?kB ?_ ?c2 ?c3 ?c4 ?c5; (case kA => exact rfl); (case kF => exact rfl); (case kK => assumption); (case k1 => k_asm); (case k2 => k_asm); (case k3 => k_asm); (case k4 => k_asm); (case k5 => k_asm); (case k6 => k_is); (case k7 => k_is); (case k8 => (first | omega | ((try simp only [depth_deeper, depth_under_make, depth_in1, ktrTop]); omega) | (simp only [depth_deeper, depth_under_make, ktrTop] ; omega))); (case k9 => exact BindsTo.of_eq rfl); (case c5 => decide); (case kB => exact locs rfl); (case c2 => exact rfl); (case c3 => exact rfl); (case c4 => exact rfl); k_whole; intro g' L' h' FG' F' N' B' X' T'; (try dsimp only); (try k_fold))
  rename Fr _ _ _ _ => F1
  replace F1 : Fr _ _ _ (fun y => List.lookup y [(PySem.Str.ofString "command", v), (PySem.Str.ofString "self", .ref x')]) := F1
  k_steps
  rename News h₀ L _ _ => N9
  exact ret _ _ _ _ (by assumption) (news_swap2 N9) ⟨_, _, _, _, rfl, rfl, l1, l2⟩

theorem pair_con {w : World} {mean : ExcName → Option Value} {mg mb : Str → Option Value} {sg : Str} {tsg : Tok} {vl vr : Value} {p1 p2 : Addr × Obj} {zs : List (Addr × Obj)} :
    Con w mean mg mb 125 [.str sg tsg, vl, vr] (p1 :: p2 :: zs) 6 48
      (fun r news' => ∃ (a da : Addr) (h0 : Int) (h1 : Int) (h2 : Int) (t0 : Tok) (t1 : Tok) (t2 : Tok), r = .ref a ∧ news' = p1 :: p2 :: ((a, instObj 125 da) :: (da, dictOf [⟨h0, .str (PySem.Str.ofString "sign") t0, .str sg tsg⟩, ⟨h1, .str (PySem.Str.ofString "left") t1, vl⟩, ⟨h2, .str (PySem.Str.ofString "right") t2, vr⟩] 3) :: zs) ∧ (∀ p ∈ p1 :: p2 :: zs, @LT.lt Nat _ p.1 da) ∧ @LT.lt Nat _ da a) NoExc := by
  intro dp un gd cn cs a ccd cl outer A₀ base h₀ L m s Q E B F X N TT hk hdp hun ret exc
  k_dflt (refine' call_cls ?k1 ?k2 ?k3 ?k4 ?k5 ?k6 ?_; (case k1 => k_asm); (case k2 => k_asm); (case k3 => k_asm); (case k4 => k_is); (case k5 => k_is); (case k6 => k_is); k_whole; intro x' d' h' F' N' l1 l2)
  have hne : ∀ p ∈ p1 :: p2 :: zs, p.1 ≠ d' := fun p hp => Nat.ne_of_lt (l1 p hp)
  k_lt2 l2
  k_dflt (refine' code_def ?k1 ?k2 ?k3 ?k4 ?k5 ?kA ?kF ?kK ?k6 ?k7 ?k8 ?k9 ?kB ?_ ?c2 ?c3 ?c4 ?c5; (case kA => exact rfl); (case kF => exact rfl); (case kK => assumption); (case k1 => k_asm); (case k2 => k_asm); (case k3 => k_asm); (case k4 => k_asm); (case k5 => k_asm); (case k6 => k_is); (case k7 => k_is); (case k8 => (first | omega | ((try simp only [depth_deeper, depth_under_make, depth_in1, ktrTop]); omega) | (simp only [depth_deeper, depth_under_make, ktrTop] ; omega))); (case k9 => exact BindsTo.of_eq rfl); (case c5 => decide); (case kB => exact locs rfl); (case c2 => exact rfl); (case c3 => exact rfl); (case c4 => exact rfl); k_whole; intro g' L' h' FG' F' N' B' X' T'; (try dsimp only); (try k_fold))
  rename Fr _ _ _ _ => F1
  replace F1 : Fr _ _ _ (fun y => List.lookup y [(PySem.Str.ofString "right", vr), (PySem.Str.ofString "left", vl), (PySem.Str.ofString "sign", .str sg tsg), (PySem.Str.ofString "self", .ref x')]) := F1
  k_steps
  rename News h₀ L _ _ => N9
  exact ret _ _ _ _ (by assumption) (news_swap2 N9) ⟨_, _, _, _, _, _, _, _, rfl, rfl, l1, l2⟩

theorem redir_con {w : World} {mean : ExcName → Option Value} {mg mb : Str → Option Value} {v : Value} {px : Str} {tpx tmd tfd : Tok} {md fd : Int} {p1 p2 : Addr × Obj} {zs : List (Addr × Obj)} :
    Con w mean mg mb 104 [v, .str px tpx, .int md tmd, .int fd tfd] (p1 :: p2 :: zs) 6 48
      (fun r news' => ∃ (a da : Addr) (h0 : Int) (h1 : Int) (h2 : Int) (h3 : Int) (t0 : Tok) (t1 : Tok) (t2 : Tok) (t3 : Tok), r = .ref a ∧ news' = p1 :: p2 :: ((a, instObj 104 da) :: (da, dictOf [⟨h0, .str (PySem.Str.ofString "command") t0, v⟩, ⟨h1, .str (PySem.Str.ofString "path") t1, .str px tpx⟩, ⟨h2, .str (PySem.Str.ofString "mode") t2, .int md tmd⟩, ⟨h3, .str (PySem.Str.ofString "descriptor") t3, .int fd tfd⟩] 4) :: zs) ∧ (∀ p ∈ p1 :: p2 :: zs, @LT.lt Nat _ p.1 da) ∧ @LT.lt Nat _ da a) NoExc := by
  intro dp un gd cn cs a ccd cl outer A₀ base h₀ L m s Q E B F X N TT hk hdp hun ret exc
  k_dflt (refine' call_cls ?k1 ?k2 ?k3 ?k4 ?k5 ?k6 ?_; (case k1 => k_asm); (case k2 => k_asm); (case k3 => k_asm); (case k4 => k_is); (case k5 => k_is); (case k6 => k_is); k_whole; intro x' d' h' F' N' l1 l2)
  have hne : ∀ p ∈ p1 :: p2 :: zs, p.1 ≠ d' := fun p hp => Nat.ne_of_lt (l1 p hp)
  k_lt2 l2
  k_dflt (refine' code_def ?k1 ?k2 ?k3 ?k4 ?k5 ?kA ?kF ?kK ?k6 ?k7 ?k8 ?k9 ?kB ?_ ?c2 ?c3 ?c4 ?c5; (case kA => exact rfl); (case kF => exact rfl); (case kK => assumption); (case k1 => k_asm); (case k2 => k_asm); (case k3 => k_asm); (case k4 => k_asm); (case k5 => k_asm); (case k6 => k_is); (case k7 => k_is); (case k8 => (first | omega | ((try simp only [depth_deeper, depth_under_make, depth_in1, ktrTop]); omega) | (simp only [depth_deeper, depth_under_make, ktrTop] ; omega))); (case k9 => exact BindsTo.of_eq rfl); (case c5 => decide); (case kB => exact locs rfl); (case c2 => exact rfl); (case c3 => exact rfl); (case c4 => exact rfl); k_whole; intro g' L' h' FG' F' N' B' X' T'; (try dsimp only); (try k_fold))
  rename Fr _ _ _ _ => F1
  replace F1 : Fr _ _ _ (fun y => List.lookup y [(PySem.Str.ofString "descriptor", .int fd tfd), (PySem.Str.ofString "mode", .int md tmd), (PySem.Str.ofString "path", .str px tpx), (PySem.Str.ofString "command", v), (PySem.Str.ofString "self", .ref x')]) := F1
  k_steps
  rename News h₀ L _ _ => N9
  exact ret _ _ _ _ (by assumption) (news_swap2 N9) ⟨_, _, _, _, _, _, _, _, _, _, rfl, rfl, l1, l2⟩
end Mine
end
/-! NzRun -/
section
open PySem PySem.W PySem.Spec PySem.Calls PyProof.Rows
namespace Mine
theorem word_NzRun_0 : True := by
  k_with_none
  w_top off
  trivial
set_option maxRecDepth 100000
set_option maxHeartbeats 8000000
set_option linter.all false
theorem fill_run : (fun (_ : PySem.W.OpenLaw) (_ : Params → Frag) => True) PySem.Challenge.rw_nz0213_01 hd.heap_1 := by
  k_fill
  trivial
theorem news_run {h₀ h : Heap} {L : Addr} {la a da l0 p1 p2 : Addr × Obj} {zs : List (Addr × Obj)} (N : News h₀ L h (la :: a :: da :: l0 :: p1 :: p2 :: zs)) : News h₀ L h (p1 :: p2 :: la :: a :: da :: zs) :=
  fun p hp => N p (by
    simp only [List.mem_cons] at hp ⊢
    rcases hp with h | h | h | h | h | h <;> simp [h])
theorem run_con {w : World} {mean : ExcName → Option Value} {mg mb : Str → Option Value} {l0 : Addr} {p1 p2 : Addr × Obj} {zs : List (Addr × Obj)} :
    Con w mean mg mb 83 [.ref l0] ((l0, listOf [].toArray 0) :: p1 :: p2 :: zs) 6 48
      (fun r news' => ∃ (a da la : Addr) (h1 : Int) (t1 : Tok) (n1 : Nat), r = .ref a ∧ news' = p1 :: p2 :: (la, listOf [].toArray n1) :: (a, instObj 83 da) :: (da, dictOf [⟨h1, .str (PySem.Str.ofString "arguments") t1, .ref la⟩] 1) :: zs ∧ (∀ p ∈ p1 :: p2 :: zs, @LT.lt Nat _ p.1 da) ∧ @LT.lt Nat _ da a ∧ @LT.lt Nat _ a la) NoExc := by
  intro dp un gd cn cs a ccd cl outer A₀ base h₀ L m s Q E B F X N TT hk hdp hun ret exc
  k_dflt (refine' call_cls ?k1 ?k2 ?k3 ?k4 ?k5 ?k6 ?_; (case k1 => k_asm); (case k2 => k_asm); (case k3 => k_asm); (case k4 => k_is); (case k5 => k_is); (case k6 => k_is); k_whole; intro x' d' h' F' N' l1 l2)
  have hne : ∀ p ∈ (l0, listOf [].toArray 0) :: p1 :: p2 :: zs, p.1 ≠ d' := fun p hp => Nat.ne_of_lt (l1 p hp)
  k_lt2 l2
  k_dflt (refine' code_def ?k1 ?k2 ?k3 ?k4 ?k5 ?kA ?kF ?kK ?k6 ?k7 ?k8 ?k9 ?kB ?_ ?c2 ?c3 ?c4 ?c5; (case kA => exact rfl); (case kF => exact rfl); (case kK => assumption); (case k1 => k_asm); (case k2 => k_asm); (case k3 => k_asm); (case k4 => k_asm); (case k5 => k_asm); (case k6 => k_is); (case k7 => k_is); (case k8 => (first | omega | ((try simp only [depth_deeper, depth_under_make, depth_in1, ktrTop]); omega) | (simp only [depth_deeper, depth_under_make, ktrTop] ; omega))); (case k9 => exact BindsTo.of_eq rfl); (case c5 => decide); (case kB => exact locs rfl); (case c2 => exact rfl); (case c3 => exact rfl); (case c4 => exact rfl); k_whole; intro g' L' h' FG' F' N' B' X' T'; (try dsimp only); (try k_fold))
  rename Fr _ _ _ _ => F1
  replace F1 : Fr _ _ _ (fun y => List.lookup y [(PySem.Str.ofString "arguments", .ref l0), (PySem.Str.ofString "self", .ref x')]) := F1
  k_steps
  rename News h₀ L _ _ => N9
  rename (_ ∧ _) => lc
  exact ret _ _ _ _ (by assumption) (news_run N9) ⟨_, _, _, _, _, _, rfl, rfl, fun p hp => l1 p (.tail _ hp), l2, lc.1⟩
end Mine
end
/-! NzReds -/
section
open PySem PySem.W PySem.Spec PySem.Calls PyProof.Rows
namespace Mine
theorem word_NzReds_0 : True := by
  k_with_none
  w_top off
  trivial
set_option maxRecDepth 100000
set_option maxHeartbeats 8000000
set_option linter.all false
theorem fill_reds : (fun (_ : PySem.W.OpenLaw) (_ : Params → Frag) => True) PySem.Challenge.rw_nz0213_01 hd.heap_1 := by
  k_fill
  trivial
theorem lit_lg : (PySem.Str.ofString "<>").cps.toList = [60, 62] := by decide +kernel
theorem lit_amp : (PySem.Str.ofString "&").cps.toList = [38] := by decide +kernel
theorem lit_semi : (PySem.Str.ofString ";").cps.toList = [59] := by decide +kernel
theorem lit_bar : (PySem.Str.ofString "|").cps.toList = [124] := by decide +kernel
theorem lit_close : (PySem.Str.ofString ")").cps.toList = [41] := by decide +kernel
theorem lit_open : (PySem.Str.ofString "(").cps.toList = [40] := by decide +kernel
theorem lit_ends : (PySem.Str.ofString "|)&;").cps.toList = [124, 41, 38, 59] := by decide +kernel
def Fresh (x d : Addr) (zs new : List (Addr × Obj)) : Prop := ∀ q ∈ new, @LT.lt Nat _ x q.1 ∧ @LT.lt Nat _ d q.1 ∧ ∀ o ∈ zs, @LT.lt Nat _ o.1 q.1
theorem if3 {a b c : Str} {A B C A' B' C' : Option Value} {f : Str → Option Value} : (fun y => if y = a then A else if y = b then B else if y = c then C else if y = a then A' else if y = b then B' else if y = c then C' else f y) = fun y => if y = a then A else if y = b then B else if y = c then C else f y := by
  funext y
  by_cases h1 : y = a
  · simp only [h1, if_true]
  · by_cases h2 : y = b
    · simp only [h1, if_false, h2, if_true]
    · by_cases h3 : y = c
      · simp only [h1, if_false, h2, h3, if_true]
      · simp only [h1, if_false, h2, h3]
theorem RedIn.cons' {news : List (Addr × Obj)} {v c : Value} {rs : List Red} {r : Red} {a da : Addr} {h1 h2 h3 h4 : Int} {t1 t2 t3 t4 tp tm tf : Tok} {md fd : Int} (ha : (a, instObj 104 da) ∈ news)
    (hd : (da, redObj h1 h2 h3 h4 t1 t2 t3 t4 c r.1 tp tm tf md fd) ∈ news) (hm : mdOf r = md) (hf : fdOf r = fd) (h : RedIn news v c rs) : RedIn news v (.ref a) (r :: rs) := by
  subst hm hf
  exact .cons ha hd h
theorem fresh_two {x d a da : Addr} {zs new R : List (Addr × Obj)} {ox od oa oda : Obj} (l : ∀ p ∈ (x, ox) :: (d, od) :: R, @LT.lt Nat _ p.1 da) (lt : @LT.lt Nat _ da a) (e : R = new ++ zs) (hf : Fresh x d zs new) : Fresh x d zs ((a, oa) :: (da, oda) :: new) := by
  have lx := l _ (.head _)
  have ld := l _ (.tail _ (.head _))
  have lz : ∀ o ∈ zs, @LT.lt Nat _ o.1 da := fun o ho => l o (.tail _ (.tail _ (by rw [e]; exact List.mem_append_right _ ho)))
  intro q hq
  simp only [List.mem_cons] at hq
  rcases hq with rfl | rfl | hq
  · exact ⟨Nat.lt_trans lx lt, Nat.lt_trans ld lt, fun o ho => Nat.lt_trans (lz o ho) lt⟩
  · exact ⟨lx, ld, lz⟩
  · exact hf q hq
theorem ne_two {x d a da : Addr} {R : List (Addr × Obj)} {ox od oa oda : Obj} (l : ∀ p ∈ (x, ox) :: (d, od) :: R, @LT.lt Nat _ p.1 da) (lt : @LT.lt Nat _ da a) (h : ∀ q ∈ R, q.1 ≠ d) : ∀ q ∈ (a, oa) :: (da, oda) :: R, q.1 ≠ d := by
  have ld := l _ (.tail _ (.head _))
  intro q hq
  simp only [List.mem_cons] at hq
  rcases hq with rfl | rfl | hq
  · exact Nat.ne_of_gt (Nat.lt_trans ld lt)
  · exact Nat.ne_of_gt ld
  · exact h q hq
theorem word_NzReds_1 : True := by
  k_with "my call ref" => (k_here; (with_reducible show wpAny _ _ (call (Value.ref 178) _ _) _ _ _); k_dflt (refine con_go (by k_asm) (by exact fun _ hp => hp) (by k_asm) (by k_asm) (by k_asm) (by k_asm) (by exact rfl) (next_is_t (by k_all) (by assumption) (by assumption) (by assumption) (by assumption) (by first | exact lit_lg | exact lit_amp | exact lit_semi | exact lit_bar | exact lit_close | exact lit_open | exact lit_ends) (by decide)) (by ((try simp only [depth_deeper, ktrTop]); omega)) (by ((try simp only [units_deeper, ktrTop]); omega)) (by exact fun _ hc => hc.elim) ?_; intro r9 news9 h9 tk9 F9 N9 hP9; refine Exists.elim hP9 ?_; clear hP9; intro p9 hP9; refine Exists.elim hP9 ?_; clear hP9; intro tp9 hP9; refine And.elim ?_ hP9; clear hP9; intro hr9 hP9; refine And.elim ?_ hP9; clear hP9; intro hn9 hP9; subst hr9; subst hn9; refine And.elim ?_ hP9; clear hP9; intro hp9 hP9; refine And.elim ?_ hP9; clear hP9; intro ht9 hP9; (try k_sweep); (try dsimp only); (try k_fold)))
  trivial
theorem word_NzReds_2 : True := by
  k_with "my call ref" => (k_here; (with_reducible show wpAny _ _ (call (Value.ref 199) _ _) _ _ _); k_dflt (refine con_go (by k_asm) (by exact fun _ hp => hp) (by k_asm) (by k_asm) (by k_asm) (by k_asm) (by exact rfl) (is_word_t (by k_all) (by assumption) (by assumption) (by assumption) (by assumption)) (by ((try simp only [depth_deeper, ktrTop]); omega)) (by ((try simp only [units_deeper, ktrTop]); omega)) (by exact fun _ hc => hc.elim) ?_; intro r9 news9 h9 tk9 F9 N9 hP9; refine Exists.elim hP9 ?_; clear hP9; intro p9 hP9; refine Exists.elim hP9 ?_; clear hP9; intro tp9 hP9; refine And.elim ?_ hP9; clear hP9; intro hr9 hP9; refine And.elim ?_ hP9; clear hP9; intro hn9 hP9; subst hr9; subst hn9; refine And.elim ?_ hP9; clear hP9; intro hp9 hP9; refine And.elim ?_ hP9; clear hP9; intro ht9 hP9; (try k_sweep); (try dsimp only); (try k_fold)))
  trivial
theorem word_NzReds_3 : True := by
  k_with "my call ref" => (k_here; (with_reducible show wpAny _ _ (call (Value.ref 206) _ _) _ _ _); k_dflt (refine con_go (by k_asm) (by exact fun _ hp => hp) (by k_asm) (by k_asm) (by k_asm) (by k_asm) (by exact rfl) (word_t (by k_all) (by assumption) (by assumption) (by assumption) (by assumption) (by assumption)) (by ((try simp only [depth_deeper, ktrTop]); omega)) (by ((try simp only [units_deeper, ktrTop]); omega)) (by exact fun _ hc => hc.elim) ?_; intro r9 news9 h9 tk9 F9 N9 hP9; refine Exists.elim hP9 ?_; clear hP9; intro p9 hP9; refine Exists.elim hP9 ?_; clear hP9; intro tp9 hP9; refine Exists.elim hP9 ?_; clear hP9; intro tr9 hP9; refine And.elim ?_ hP9; clear hP9; intro hr9 hP9; refine And.elim ?_ hP9; clear hP9; intro hn9 hP9; subst hr9; subst hn9; refine And.elim ?_ hP9; clear hP9; intro hp9 hP9; (try k_sweep); (try dsimp only); (try k_fold)))
  trivial
theorem word_NzReds_4 : True := by
  k_with "my call ref" => (k_here; (with_reducible show wpAny _ _ (call (Value.ref 192) _ _) _ _ _); k_dflt (refine con_go (by k_asm) (by exact fun _ hp => hp) (by k_asm) (by k_asm) (by k_asm) (by k_asm) (by exact rfl) (sign_t (by k_all) (by assumption) (by assumption) (by assumption) (by assumption) (by assumption) (by assumption)) (by ((try simp only [depth_deeper, ktrTop]); omega)) (by ((try simp only [units_deeper, ktrTop]); omega)) (by exact fun _ hc => hc.elim) ?_; intro r9 news9 h9 tk9 F9 N9 hP9; refine Exists.elim hP9 ?_; clear hP9; intro p9 hP9; refine Exists.elim hP9 ?_; clear hP9; intro tp9 hP9; refine Exists.elim hP9 ?_; clear hP9; intro tr9 hP9; refine And.elim ?_ hP9; clear hP9; intro hr9 hP9; refine And.elim ?_ hP9; clear hP9; intro hn9 hP9; subst hr9; subst hn9; refine And.elim ?_ hP9; clear hP9; intro hp9 hP9; (try k_sweep); (try dsimp only); (try k_fold)))
  trivial
theorem word_NzReds_5 : True := by
  k_with "my call ref" => (k_here; (with_reducible show wpAny _ _ (call (Value.ref 220) _ _) _ _ _); k_dflt (refine con_go (by k_asm) (by exact fun _ hp => hp) (by k_asm) (by k_asm) (by k_asm) (by k_asm) (by exact rfl) (fault_con (by first | assumption | decide +kernel | omega)) (by ((try simp only [depth_deeper, ktrTop]); omega)) (by ((try simp only [units_deeper, ktrTop]); omega)) (by exact fun _ hc => hc.elim) ?_; intro r9 news9 h9 tk9 F9 N9 hP9; refine Exists.elim hP9 ?_; clear hP9; intro e9 hP9; refine Exists.elim hP9 ?_; clear hP9; intro t9 hP9; refine Exists.elim hP9 ?_; clear hP9; intro dx9 hP9; refine Exists.elim hP9 ?_; clear hP9; intro od9 hP9; refine Exists.elim hP9 ?_; clear hP9; intro ot9 hP9; refine And.elim ?_ hP9; clear hP9; intro hr9 hP9; refine And.elim ?_ hP9; clear hP9; intro hn9 hP9; subst hr9; subst hn9; (try k_sweep); (try dsimp only); (try k_fold)))
  trivial
theorem word_NzReds_6 : True := by
  k_with "my call ref" => (k_here; (with_reducible show wpAny _ _ (call (Value.ref 104) _ _) _ _ _); k_dflt (refine con_go (by k_asm) (by exact fun _ hp => hp) (by k_asm) (by k_asm) (by k_asm) (by k_asm) (by exact rfl) (redir_con) (by ((try simp only [depth_deeper, ktrTop]); omega)) (by ((try simp only [units_deeper, ktrTop]); omega)) (by exact fun _ hc => hc.elim) ?_; intro r9 news9 h9 tk9 F9 N9 hP9; refine Exists.elim hP9 ?_; clear hP9; intro a9 hP9; refine Exists.elim hP9 ?_; clear hP9; intro da9 hP9; refine Exists.elim hP9 ?_; clear hP9; intro h19 hP9; refine Exists.elim hP9 ?_; clear hP9; intro h29 hP9; refine Exists.elim hP9 ?_; clear hP9; intro h39 hP9; refine Exists.elim hP9 ?_; clear hP9; intro h49 hP9; refine Exists.elim hP9 ?_; clear hP9; intro t19 hP9; refine Exists.elim hP9 ?_; clear hP9; intro t29 hP9; refine Exists.elim hP9 ?_; clear hP9; intro t39 hP9; refine Exists.elim hP9 ?_; clear hP9; intro t49 hP9; refine And.elim ?_ hP9; clear hP9; intro hr9 hP9; refine And.elim ?_ hP9; clear hP9; intro hn9 hP9; subst hr9; subst hn9; refine And.elim ?_ hP9; clear hP9; intro l9 hP9; (try k_sweep); (try dsimp only); (try k_fold)))
  trivial
theorem word_NzReds_7 : True := by
  k_with "my exec Raise some none" => (refine raise_open ?_)
  trivial
theorem word_NzReds_8 : True := by
  k_with "my exec While Call cons nil" => refine stop_here ?_
  trivial
theorem reds_con {w : World} {mean : ExcName → Option Value} {mg mb : Str → Option Value} {x d : Addr} {h1 h2 : Int} {t1 t2 : Tok} {T : Str} {tt : Tok} {p : Nat} {tp : Tok} {zs : List (Addr × Obj)} {ts : List Tk} {v : Value} (hz : ∀ q ∈ zs, q.1 ≠ d) (hxd : x ≠ d) (hT : T.length ≤ 1000) (hp : p ≤ T.length) (ht : tks T p = ts) :
    Con w mean mg mb 248 [.ref x, v] ((x, instObj 209 d) :: (d, scOf h1 h2 t1 t2 T tt p tp) :: zs) 12 90
      (fun r news' => ∃ (acc : List Red) (ts' : List Tk) (p' : Nat) (tp' : Tok) (new : List (Addr × Obj)), pReds [] ts = some (acc, ts') ∧ news' = (x, instObj 209 d) :: (d, scOf h1 h2 t1 t2 T tt p' tp') :: (new ++ zs) ∧ p' ≤ T.length ∧ tks T p' = ts' ∧ Fresh x d zs new ∧ RedIn new v r acc)
      (fun c => c = .ref 64 ∧ pReds [] ts = none) := by
  intro dp un gd cn cs a ccd cl outer A₀ base h₀ L m s Q E B F X N TT hk hdp hun ret exc
  refine wpAny_call ?_
  k_dflt ktr_enter
  rename Fr _ _ _ _ => F1
  replace F1 : Fr _ _ _ (fun y => List.lookup y [(PySem.Str.ofString "command", v), (PySem.Str.ofString "scanner", .ref x)]) := F1
  k_steps
  rename Fr _ _ _ _ => F2
  rename News _ _ _ _ => N2
  unfold Stop
  refine whl_inv2 F2 N2 (by passes_own) (J := fun k m news => ∃ (acc : List Red) (tsN : List Tk) (pN : Nat) (tpN : Tok) (new R : List (Addr × Obj)) (vN : Value) (o1 o2 : Option Value),
      m = (fun y => if y = PySem.Str.ofString "command" then some vN else if y = PySem.Str.ofString "path" then o1 else if y = PySem.Str.ofString "sign" then o2 else List.lookup y [(PySem.Str.ofString "command", v), (PySem.Str.ofString "scanner", .ref x)]) ∧
      news = (x, instObj 209 d) :: (d, scOf h1 h2 t1 t2 T tt pN tpN) :: R ∧ R = new ++ zs ∧ k = tsN.length ∧ pN ≤ T.length ∧ tks T pN = tsN ∧ Fresh x d zs new ∧ RedIn new v vN acc ∧ pReds [] ts = pReds acc tsN ∧ (∀ q ∈ R, q.1 ≠ d)) (n0 := ts.length) ?_ ?_
  · refine ⟨[], ts, p, tp, [], zs, v, none, none, ?_, rfl, rfl, rfl, hp, ht, (fun q hq => nomatch hq), .nil, rfl, hz⟩
    funext y; (repeat' split) <;> first | rfl | (subst y; rfl)
  · clear N2 F2
    rintro k m news h tk F1 N1 ⟨acc, tsN, pN, tpN, new, R, vN, o1, o2, e0, e1, eR, ek, hpN, htN, hfr, hred, hpr, hzR⟩ R9 IH
    subst e0; subst e1; subst ek
    k_steps
    · rename isIn [60, 62] tsN = true => ha
      rename isWord tsN.tail = true => hw
      have q1 := tail_lt ha
      have q2 := wtail_lt hw
      rename (∀ p ∈ (x, _) :: (d, _) :: R, _) => l9
      subst eR
      refine IH tsN.tail.tail.length _ _ _ _ (by omega) (by assumption) (by assumption) ⟨(wordOf tsN.tail, tkC tsN, tkTw tsN) :: acc, tsN.tail.tail, _, _, _ :: _ :: new, _, _, _, _, if3, rfl, rfl, rfl, by assumption, by assumption, fresh_two l9 (by assumption) rfl hfr, RedIn.cons' (.head _) (.tail _ (.head _)) ?_ ?_ (hred.mono fun p hp => .tail _ (.tail _ hp)), hpr.trans (pReds_step ha hw), ne_two l9 (by assumption) hzR⟩
      · rename ((tkText tsN == _) = true) => hs
        exact if_pos hs
      · rename ((tkText tsN == _) = true) => hs
        exact if_pos hs
    · rename isIn [60, 62] tsN = true => ha
      rename isWord tsN.tail = true => hw
      have q1 := tail_lt ha
      have q2 := wtail_lt hw
      rename (∀ p ∈ (x, _) :: (d, _) :: R, _) => l9
      subst eR
      refine IH tsN.tail.tail.length _ _ _ _ (by omega) (by assumption) (by assumption) ⟨(wordOf tsN.tail, tkC tsN, tkTw tsN) :: acc, tsN.tail.tail, _, _, _ :: _ :: new, _, _, _, _, if3, rfl, rfl, rfl, by assumption, by assumption, fresh_two l9 (by assumption) rfl hfr, RedIn.cons' (.head _) (.tail _ (.head _)) ?_ ?_ (hred.mono fun p hp => .tail _ (.tail _ hp)), hpr.trans (pReds_step ha hw), ne_two l9 (by assumption) hzR⟩
      · rename ((tkText tsN == _) = true) => hs
        rename ((tkText tsN == _) = false) => hs2
        exact (if_neg (ne_true_of_eq_false hs2)).trans (if_pos hs)
      · rename ((tkText tsN == _) = false) => hs2
        exact if_neg (ne_true_of_eq_false hs2)
    · rename isIn [60, 62] tsN = true => ha
      rename isWord tsN.tail = true => hw
      have q1 := tail_lt ha
      have q2 := wtail_lt hw
      rename (∀ p ∈ (x, _) :: (d, _) :: R, _) => l9
      subst eR
      refine IH tsN.tail.tail.length _ _ _ _ (by omega) (by assumption) (by assumption) ⟨(wordOf tsN.tail, tkC tsN, tkTw tsN) :: acc, tsN.tail.tail, _, _, _ :: _ :: new, _, _, _, _, if3, rfl, rfl, rfl, by assumption, by assumption, fresh_two l9 (by assumption) rfl hfr, RedIn.cons' (.head _) (.tail _ (.head _)) ?_ ?_ (hred.mono fun p hp => .tail _ (.tail _ hp)), hpr.trans (pReds_step ha hw), ne_two l9 (by assumption) hzR⟩
      · have hs2 : (tkText tsN == PySem.Str.ofString "<") = false := by assumption
        have hs : (tkText tsN == PySem.Str.ofString ">") = false := by assumption
        exact (if_neg (ne_true_of_eq_false hs2)).trans (if_neg (ne_true_of_eq_false hs))
      · have hs2 : (tkText tsN == PySem.Str.ofString "<") = false := by assumption
        exact if_neg (ne_true_of_eq_false hs2)
    · rename News _ _ _ ((_, excObj 64 _ _) :: _) => N9
      rename Fr _ _ _ _ => F9
      refine' raise_done (C := 64) rfl ?r9c ?r9b (N9 _ (.head _)).1 ?_
      case r9c => exact (Frag.In.keeps (by assumption) (Fr.keep F9)) _ _ (by k_is)
      case r9b => decide +kernel
      refine leave_raiseX (by assumption) F9 N9 (.head _) rfl rfl rfl (fun h8 R8 U8 => ?_)
      exact exc _ ⟨rfl, hpr.trans (pReds_bad (by assumption) (by assumption))⟩ _ _ _ _ R8 (by assumption) U8
    · rename isIn [60, 62] tsN = false => ha
      subst eR
      refine ret _ _ _ _ (by assumption) (by assumption) ⟨acc, tsN, _, _, new, hpr.trans (pReds_stop ha), rfl, by assumption, by assumption, hfr, hred⟩
end Mine
end
/-! NzBlock -/
section
open PySem PySem.W PySem.Spec PySem.Calls PyProof.Rows
namespace Mine
theorem word_NzBlock_0 : True := by
  k_with_none
  w_top off
  trivial
set_option maxRecDepth 100000
set_option maxHeartbeats 8000000
set_option linter.all false
theorem fill_block : (fun (_ : PySem.W.OpenLaw) (_ : Params → Frag) => True) PySem.Challenge.rw_nz0213_01 hd.heap_1 := by
  k_fill
  trivial
/-- a def of the parser: what it gives on the tokens ts -/
def LineC (w : World) (mean : ExcName → Option Value) (mg mb : Str → Option Value) (f : Addr) (pf : List Tk → PRes) (nd nu : Nat) (ts : List Tk) : Prop :=
  ∀ (x d : Addr) (h1 h2 : Int) (t1 t2 : Tok) (T : Str) (tt : Tok) (p : Nat) (tp : Tok) (zs : List (Addr × Obj)), (∀ q ∈ zs, q.1 ≠ d) → x ≠ d → T.length ≤ 1000 → p ≤ T.length → tks T p = ts →
  Con w mean mg mb f [.ref x] ((x, instObj 209 d) :: (d, scOf h1 h2 t1 t2 T tt p tp) :: zs) nd nu
    (fun r news' => ∃ (t : Tree) (ts' : List Tk) (p' : Nat) (tp' : Tok) (new : List (Addr × Obj)), pf ts = some (t, ts') ∧ news' = (x, instObj 209 d) :: (d, scOf h1 h2 t1 t2 T tt p' tp') :: (new ++ zs) ∧ p' ≤ T.length ∧ tks T p' = ts' ∧ Fresh x d zs new ∧ TreeIn new r t)
    (fun c => c = .ref 64 ∧ pf ts = none)
theorem lineC_use {w : World} {mean : ExcName → Option Value} {mg mb : Str → Option Value} {f : Addr} {pf : List Tk → PRes} {nd nu : Nat} {ts : List Tk} (C : LineC w mean mg mb f pf nd nu ts)
    {x d : Addr} {h1 h2 : Int} {t1 t2 : Tok} {T : Str} {tt : Tok} {p : Nat} {tp : Tok} {zs : List (Addr × Obj)} (hz : ∀ q ∈ zs, q.1 ≠ d) (hxd : x ≠ d) (hT : T.length ≤ 1000) (hp : p ≤ T.length) (ht : tks T p = ts) :
  Con w mean mg mb f [.ref x] ((x, instObj 209 d) :: (d, scOf h1 h2 t1 t2 T tt p tp) :: zs) nd nu
    (fun r news' => ∃ (t : Tree) (ts' : List Tk) (p' : Nat) (tp' : Tok) (new : List (Addr × Obj)), pf ts = some (t, ts') ∧ news' = (x, instObj 209 d) :: (d, scOf h1 h2 t1 t2 T tt p' tp') :: (new ++ zs) ∧ p' ≤ T.length ∧ tks T p' = ts' ∧ Fresh x d zs new ∧ TreeIn new r t)
    (fun c => c = .ref 64 ∧ pf ts = none) := C _ _ _ _ _ _ _ _ _ _ _ hz hxd hT hp ht
theorem fresh_ne {x d : Addr} {zs new : List (Addr × Obj)} (hf : Fresh x d zs new) (hz : ∀ q ∈ zs, q.1 ≠ d) : ∀ q ∈ new ++ zs, q.1 ≠ d := fun q hq => by
  rcases List.mem_append.mp hq with h | h
  · exact Nat.ne_of_gt (hf q h).2.1
  · exact hz q h
theorem fresh_app {x d : Addr} {zs new new2 : List (Addr × Obj)} (h1 : Fresh x d zs new) (h2 : Fresh x d (new ++ zs) new2) : Fresh x d zs (new2 ++ new) := fun q hq => by
  rcases List.mem_append.mp hq with h | h
  · exact ⟨(h2 q h).1, (h2 q h).2.1, fun o ho => (h2 q h).2.2 o (List.mem_append_right _ ho)⟩
  · exact h1 q h
theorem news_app {α : Type} {a b : α} {n2 n1 zs : List α} : a :: b :: (n2 ++ (n1 ++ zs)) = a :: b :: ((n2 ++ n1) ++ zs) := by rw [List.append_assoc]
theorem block_none1 {line : List Tk → PRes} {ts : List Tk} (h : line ts.tail = none) : pBlock line ts = none := by unfold pBlock; rw [h]
theorem block_none2 {line : List Tk → PRes} {ts ts1 : List Tk} {t : Tree} (h : line ts.tail = some (t, ts1)) (h2 : isIn [41] ts1 = false) : pBlock line ts = none := by
  unfold pBlock; rw [h]; simp only; rw [h2]; rfl
theorem block_none3 {line : List Tk → PRes} {ts ts1 : List Tk} {t : Tree} (h : line ts.tail = some (t, ts1)) (h2 : isIn [41] ts1 = true) (h3 : pReds [] ts1.tail = none) : pBlock line ts = none := by
  unfold pBlock; rw [h]; simp only; rw [h2, h3]; rfl
theorem block_some {line : List Tk → PRes} {ts ts1 ts2 : List Tk} {t : Tree} {acc : List Red} (h : line ts.tail = some (t, ts1)) (h2 : isIn [41] ts1 = true) (h3 : pReds [] ts1.tail = some (acc, ts2)) : pBlock line ts = some (wrap acc t, ts2) := by
  unfold pBlock; rw [h]; simp only; rw [h2, h3]; rfl
theorem word_NzBlock_1 : True := by
  k_with "my call ref" => (k_here; (with_reducible show wpAny _ _ (call (Value.ref 178) _ _) _ _ _); k_dflt (refine con_go (by k_asm) (by exact fun _ hp => hp) (by k_asm) (by k_asm) (by k_asm) (by k_asm) (by exact rfl) (next_is_t (by k_all) (by assumption) (by assumption) (by assumption) (by assumption) (by first | exact lit_lg | exact lit_amp | exact lit_semi | exact lit_bar | exact lit_close | exact lit_open | exact lit_ends) (by decide)) (by ((try simp only [depth_deeper, ktrTop]); omega)) (by ((try simp only [units_deeper, ktrTop]); omega)) (by exact fun _ hc => hc.elim) ?_; intro r9 news9 h9 tk9 F9 N9 hP9; refine Exists.elim hP9 ?_; clear hP9; intro p9 hP9; refine Exists.elim hP9 ?_; clear hP9; intro tp9 hP9; refine And.elim ?_ hP9; clear hP9; intro hr9 hP9; refine And.elim ?_ hP9; clear hP9; intro hn9 hP9; subst hr9; subst hn9; refine And.elim ?_ hP9; clear hP9; intro hp9 hP9; refine And.elim ?_ hP9; clear hP9; intro ht9 hP9; (try k_sweep); (try dsimp only); (try k_fold)))
  trivial
theorem word_NzBlock_2 : True := by
  k_with "my call ref" => (k_here; (with_reducible show wpAny _ _ (call (Value.ref 192) _ _) _ _ _); k_dflt (refine con_go (by k_asm) (by exact fun _ hp => hp) (by k_asm) (by k_asm) (by k_asm) (by k_asm) (by exact rfl) (sign_t (by k_all) (by assumption) (by assumption) (by assumption) (by assumption) (by assumption) (by assumption)) (by ((try simp only [depth_deeper, ktrTop]); omega)) (by ((try simp only [units_deeper, ktrTop]); omega)) (by exact fun _ hc => hc.elim) ?_; intro r9 news9 h9 tk9 F9 N9 hP9; refine Exists.elim hP9 ?_; clear hP9; intro p9 hP9; refine Exists.elim hP9 ?_; clear hP9; intro tp9 hP9; refine Exists.elim hP9 ?_; clear hP9; intro tr9 hP9; refine And.elim ?_ hP9; clear hP9; intro hr9 hP9; refine And.elim ?_ hP9; clear hP9; intro hn9 hP9; subst hr9; subst hn9; refine And.elim ?_ hP9; clear hP9; intro hp9 hP9; (try k_sweep); (try dsimp only); (try k_fold)))
  trivial
theorem word_NzBlock_3 : True := by
  k_with "my call ref" => (k_here; (with_reducible show wpAny _ _ (call (Value.ref 220) _ _) _ _ _); k_dflt (refine con_go (by k_asm) (by exact fun _ hp => hp) (by k_asm) (by k_asm) (by k_asm) (by k_asm) (by exact rfl) (fault_con (by first | assumption | decide +kernel | omega)) (by ((try simp only [depth_deeper, ktrTop]); omega)) (by ((try simp only [units_deeper, ktrTop]); omega)) (by exact fun _ hc => hc.elim) ?_; intro r9 news9 h9 tk9 F9 N9 hP9; refine Exists.elim hP9 ?_; clear hP9; intro e9 hP9; refine Exists.elim hP9 ?_; clear hP9; intro t9 hP9; refine Exists.elim hP9 ?_; clear hP9; intro dx9 hP9; refine Exists.elim hP9 ?_; clear hP9; intro od9 hP9; refine Exists.elim hP9 ?_; clear hP9; intro ot9 hP9; refine And.elim ?_ hP9; clear hP9; intro hr9 hP9; refine And.elim ?_ hP9; clear hP9; intro hn9 hP9; subst hr9; subst hn9; (try k_sweep); (try dsimp only); (try k_fold)))
  trivial
theorem word_NzBlock_4 : True := by
  k_with "my exec Raise some none" => (refine raise_open ?_)
  trivial
theorem word_NzBlock_5 : True := by
  k_with "my RaiseRest" => (rename News _ _ _ ((_, excObj 64 _ _) :: _) => N9; rename Fr _ _ _ _ => F9; refine raise_done (C := 64) rfl (by exact (Frag.In.keeps (by assumption) (Fr.keep F9)) _ _ (by k_is)) (by decide +kernel) (N9 _ (.head _)).1 ?_; refine leave_raiseX (by assumption) F9 N9 (.head _) rfl rfl rfl (fun h8 R8 U8 => ?_); with_reducible rename (∀ (cls : Value), _ → ∀ (e : Addr) (g h' : Heap) (tk' : Nat), RaisedX _ _ _ _ _ _ → _) => exc8; exact exc8 _ ⟨rfl, by tb_start⟩ _ _ _ _ R8 (by assumption) U8)
  trivial
theorem word_NzBlock_6 : True := by
  k_with "my call ref" => (k_here; (with_reducible show wpAny _ _ (call (Value.ref 248) _ _) _ _ _); k_dflt (refine con_go (by k_asm) (by exact fun _ hp => hp) (by k_asm) (by k_asm) (by k_asm) (by k_asm) (by exact rfl) (reds_con (by k_all) (by assumption) (by assumption) (by assumption) (by assumption)) (by ((try simp only [depth_deeper, ktrTop]); omega)) (by ((try simp only [units_deeper, ktrTop]); omega)) (by (intro cls8 hc8 e8 g8 h8 tk8 R8 F8 U8; with_reducible rename (∀ (cls : Value), _ → ∀ (e : Addr) (g h' : Heap) (tk' : Nat), RaisedX _ _ _ _ _ _ → _) => exc8; refine leave_onX (by assumption) F8 R8 U8 ?_; intro h7 R7 U7; exact exc8 _ ⟨And.left hc8, by (have hn8 := And.right hc8; tb_start)⟩ _ _ _ _ R7 (by assumption) U7)) ?_; intro r9 news9 h9 tk9 F9 N9 hP9; refine Exists.elim hP9 ?_; clear hP9; intro acc9 hP9; refine Exists.elim hP9 ?_; clear hP9; intro ts9 hP9; refine Exists.elim hP9 ?_; clear hP9; intro p9 hP9; refine Exists.elim hP9 ?_; clear hP9; intro tp9 hP9; refine Exists.elim hP9 ?_; clear hP9; intro new9 hP9; refine And.elim ?_ hP9; clear hP9; intro hpl9 hP9; refine And.elim ?_ hP9; clear hP9; intro hn9 hP9; subst hn9; refine And.elim ?_ hP9; clear hP9; intro hp9 hP9; refine And.elim ?_ hP9; clear hP9; intro ht9 hP9; refine And.elim ?_ hP9; clear hP9; intro hfr9 hP9; (try k_sweep); (try dsimp only); (try k_fold)))
  trivial
theorem word_NzBlock_7 : True := by
  k_with "my call ref" => (k_here; (with_reducible show wpAny _ _ (call (Value.ref 234) _ _) _ _ _); k_dflt (refine con_go (by k_asm) (by exact fun _ hp => hp) (by k_asm) (by k_asm) (by k_asm) (by k_asm) (by exact rfl) (lineC_use (by assumption) (by k_all) (by assumption) (by assumption) (by assumption) (by assumption)) (by ((try simp only [depth_deeper, ktrTop]); omega)) (by ((try simp only [units_deeper, ktrTop]); omega)) (by (intro cls8 hc8 e8 g8 h8 tk8 R8 F8 U8; with_reducible rename (∀ (cls : Value), _ → ∀ (e : Addr) (g h' : Heap) (tk' : Nat), RaisedX _ _ _ _ _ _ → _) => exc8; refine leave_onX (by assumption) F8 R8 U8 ?_; intro h7 R7 U7; exact exc8 _ ⟨And.left hc8, by (have hn8 := And.right hc8; tb_start)⟩ _ _ _ _ R7 (by assumption) U7)) ?_; intro r9 news9 h9 tk9 F9 N9 hP9; refine Exists.elim hP9 ?_; clear hP9; intro t9 hP9; refine Exists.elim hP9 ?_; clear hP9; intro ts9 hP9; refine Exists.elim hP9 ?_; clear hP9; intro p9 hP9; refine Exists.elim hP9 ?_; clear hP9; intro tp9 hP9; refine Exists.elim hP9 ?_; clear hP9; intro new9 hP9; refine And.elim ?_ hP9; clear hP9; intro hpl9 hP9; refine And.elim ?_ hP9; clear hP9; intro hn9 hP9; subst hn9; refine And.elim ?_ hP9; clear hP9; intro hp9 hP9; refine And.elim ?_ hP9; clear hP9; intro ht9 hP9; refine And.elim ?_ hP9; clear hP9; intro hfr9 hP9; have hz9 := fresh_ne hfr9 (by assumption); (try k_sweep); (try dsimp only); (try k_fold)))
  trivial
theorem word_NzBlock_8 : True := by
  k_with "my tb_start" => first | exact block_none1 (by assumption) | exact block_none2 (by assumption) (by assumption) | exact block_none3 (by assumption) (by assumption) (by assumption)
  trivial
theorem block_con {w : World} {mean : ExcName → Option Value} {mg mb : Str → Option Value} {line : List Tk → PRes} {n : Nat} {x d : Addr} {h1 h2 : Int} {t1 t2 : Tok} {T : Str} {tt : Tok} {p : Nat} {tp : Tok} {zs : List (Addr × Obj)} {ts : List Tk} (LC : LineC w mean mg mb 234 line (4 * n + 26) (8 * (4 * n + 26)) ts.tail) (hz : ∀ q ∈ zs, q.1 ≠ d) (hxd : x ≠ d) (hT : T.length ≤ 1000) (hp : p ≤ T.length) (ht : tks T p = ts) (ha : AtTok T p) (hi : isIn [40] ts = true) :
    Con w mean mg mb 255 [.ref x] ((x, instObj 209 d) :: (d, scOf h1 h2 t1 t2 T tt p tp) :: zs) (4 * n + 27) (8 * (4 * n + 27))
      (fun r news' => ∃ (t : Tree) (ts' : List Tk) (p' : Nat) (tp' : Tok) (new : List (Addr × Obj)), pBlock line ts = some (t, ts') ∧ news' = (x, instObj 209 d) :: (d, scOf h1 h2 t1 t2 T tt p' tp') :: (new ++ zs) ∧ p' ≤ T.length ∧ tks T p' = ts' ∧ Fresh x d zs new ∧ TreeIn new r t)
      (fun c => c = .ref 64 ∧ pBlock line ts = none) := by
  intro dp un gd cn cs a ccd cl outer A₀ base h₀ L m s Q E B F X N TT hk hdp hun ret exc
  refine wpAny_call ?_
  k_dflt ktr_enter
  rename Fr _ _ _ _ => F1
  replace F1 : Fr _ _ _ (fun y => List.lookup y [(PySem.Str.ofString "scanner", .ref x)]) := F1
  k_steps
  rename line ts.tail = some _ => e1
  rename pReds [] _ = some _ => e2
  rename isIn [41] _ = true => e3
  rename RedIn _ _ _ _ => hr
  rename TreeIn _ _ _ => ht1
  rename Fresh x d zs _ => f1
  rename Fresh x d (_ ++ zs) _ => f2
  refine ret _ _ _ _ (by assumption) (by assumption) ⟨_, _, _, _, _, block_some e1 e3 e2, news_app, by assumption, by assumption, fresh_app f1 f2, ?_⟩
  exact (hr.mono (fun p hp => List.mem_append_left _ hp)).tree (ht1.mono fun p hp => List.mem_append_right _ hp)
end Mine
end
/-! NzCmd -/
section
open PySem PySem.W PySem.Spec PySem.Calls PyProof.Rows
namespace Mine
theorem word_NzCmd_0 : True := by
  k_with_none
  w_top off
  trivial
set_option maxRecDepth 100000
set_option maxHeartbeats 8000000
set_option linter.all false
theorem fill_cmd : (fun (_ : PySem.W.OpenLaw) (_ : Params → Frag) => True) PySem.Challenge.rw_nz0213_01 hd.heap_1 := by
  k_fill
  trivial
def TreeC (w : World) (mean : ExcName → Option Value) (mg mb : Str → Option Value) (f : Addr) (pf : List Tk → PRes) (nd nu : Nat) (ts : List Tk) : Prop :=
  ∀ (x d : Addr) (h1 h2 : Int) (t1 t2 : Tok) (T : Str) (tt : Tok) (p : Nat) (tp : Tok) (zs : List (Addr × Obj)), (∀ q ∈ zs, q.1 ≠ d) → x ≠ d → T.length ≤ 1000 → p ≤ T.length → tks T p = ts → AtTok T p →
  Con w mean mg mb f [.ref x] ((x, instObj 209 d) :: (d, scOf h1 h2 t1 t2 T tt p tp) :: zs) nd nu
    (fun r news' => ∃ (t : Tree) (ts' : List Tk) (p' : Nat) (tp' : Tok) (new : List (Addr × Obj)), pf ts = some (t, ts') ∧ news' = (x, instObj 209 d) :: (d, scOf h1 h2 t1 t2 T tt p' tp') :: (new ++ zs) ∧ p' ≤ T.length ∧ tks T p' = ts' ∧ Fresh x d zs new ∧ TreeIn new r t)
    (fun c => c = .ref 64 ∧ pf ts = none)
theorem treeC_use {w : World} {mean : ExcName → Option Value} {mg mb : Str → Option Value} {f : Addr} {pf : List Tk → PRes} {nd nu : Nat} {ts : List Tk} (C : TreeC w mean mg mb f pf nd nu ts)
    {x d : Addr} {h1 h2 : Int} {t1 t2 : Tok} {T : Str} {tt : Tok} {p : Nat} {tp : Tok} {zs : List (Addr × Obj)} (hz : ∀ q ∈ zs, q.1 ≠ d) (hxd : x ≠ d) (hT : T.length ≤ 1000) (hp : p ≤ T.length) (ht : tks T p = ts) (ha : AtTok T p) :
  Con w mean mg mb f [.ref x] ((x, instObj 209 d) :: (d, scOf h1 h2 t1 t2 T tt p tp) :: zs) nd nu
    (fun r news' => ∃ (t : Tree) (ts' : List Tk) (p' : Nat) (tp' : Tok) (new : List (Addr × Obj)), pf ts = some (t, ts') ∧ news' = (x, instObj 209 d) :: (d, scOf h1 h2 t1 t2 T tt p' tp') :: (new ++ zs) ∧ p' ≤ T.length ∧ tks T p' = ts' ∧ Fresh x d zs new ∧ TreeIn new r t)
    (fun c => c = .ref 64 ∧ pf ts = none) := C _ _ _ _ _ _ _ _ _ _ _ hz hxd hT hp ht ha
theorem treeC_useI {w : World} {mean : ExcName → Option Value} {mg mb : Str → Option Value} {f : Addr} {pf : List Tk → PRes} {nd nu : Nat} {ts : List Tk} (C : isIn [40] ts = true → TreeC w mean mg mb f pf nd nu ts)
    {x d : Addr} {h1 h2 : Int} {t1 t2 : Tok} {T : Str} {tt : Tok} {p : Nat} {tp : Tok} {zs : List (Addr × Obj)} (hi : isIn [40] ts = true) (hz : ∀ q ∈ zs, q.1 ≠ d) (hxd : x ≠ d) (hT : T.length ≤ 1000) (hp : p ≤ T.length) (ht : tks T p = ts) (ha : AtTok T p) :
  Con w mean mg mb f [.ref x] ((x, instObj 209 d) :: (d, scOf h1 h2 t1 t2 T tt p tp) :: zs) nd nu
    (fun r news' => ∃ (t : Tree) (ts' : List Tk) (p' : Nat) (tp' : Tok) (new : List (Addr × Obj)), pf ts = some (t, ts') ∧ news' = (x, instObj 209 d) :: (d, scOf h1 h2 t1 t2 T tt p' tp') :: (new ++ zs) ∧ p' ≤ T.length ∧ tks T p' = ts' ∧ Fresh x d zs new ∧ TreeIn new r t)
    (fun c => c = .ref 64 ∧ pf ts = none) := C hi _ _ _ _ _ _ _ _ _ _ _ hz hxd hT hp ht ha
theorem run_facts {p1 p2 : Addr × Obj} {zs : List (Addr × Obj)} {a da la : Addr} (l9 : ∀ p ∈ p1 :: p2 :: zs, @LT.lt Nat _ p.1 da) (l8 : @LT.lt Nat _ da a) (l7 : @LT.lt Nat _ a la) : (@LT.lt Nat _ p1.1 da ∧ @LT.lt Nat _ p2.1 da) ∧ ∀ q ∈ zs, q.1 ≠ la :=
  ⟨⟨l9 _ (.head _), l9 _ (.tail _ (.head _))⟩, fun q hq => Nat.ne_of_lt (Nat.lt_trans (l9 q (.tail _ (.tail _ hq))) (Nat.lt_trans l8 l7))⟩
theorem mem3 {α : Type} {x d q1 q2 q3 : α} {new zs : List α} : ∀ p ∈ x :: d :: q1 :: q2 :: q3 :: (new ++ zs), p ∈ x :: d :: (new ++ q1 :: q2 :: q3 :: zs) := by
  intro p hp
  simp only [List.mem_cons, List.mem_append] at hp ⊢
  rcases hp with h | h | h | h | h | h | h <;> simp [h]
theorem reds_con3 {w : World} {mean : ExcName → Option Value} {mg mb : Str → Option Value} {x d : Addr} {h1 h2 : Int} {t1 t2 : Tok} {T : Str} {tt : Tok} {p : Nat} {tp : Tok} {zs : List (Addr × Obj)} {ts : List Tk} {v : Value} {q1 q2 q3 : Addr × Obj} (g1 : q1.1 ≠ d) (g2 : q2.1 ≠ d) (g3 : q3.1 ≠ d) (hz : ∀ q ∈ zs, q.1 ≠ d) (hxd : x ≠ d) (hT : T.length ≤ 1000) (hp : p ≤ T.length) (ht : tks T p = ts) :
    Con w mean mg mb 248 [.ref x, v] ((x, instObj 209 d) :: (d, scOf h1 h2 t1 t2 T tt p tp) :: q1 :: q2 :: q3 :: zs) 12 90
      (fun r news' => ∃ (acc : List Red) (ts' : List Tk) (p' : Nat) (tp' : Tok) (new : List (Addr × Obj)), pReds [] ts = some (acc, ts') ∧ news' = (x, instObj 209 d) :: (d, scOf h1 h2 t1 t2 T tt p' tp') :: q1 :: q2 :: q3 :: (new ++ zs) ∧ p' ≤ T.length ∧ tks T p' = ts' ∧ Fresh x d (q1 :: q2 :: q3 :: zs) new ∧ RedIn new v r acc)
      (fun c => c = .ref 64 ∧ pReds [] ts = none) :=
  con_mono (reds_con (fun q hq => by
    simp only [List.mem_cons] at hq
    rcases hq with rfl | rfl | rfl | h
    · exact g1
    · exact g2
    · exact g3
    · exact hz q h) hxd hT hp ht) (Nat.le_refl _) (Nat.le_refl _) (fun r n ⟨acc, ts', p', tp', new, a1, a2, a3, a4, a5, a6⟩ => ⟨_, by rw [a2]; exact mem3, acc, ts', p', tp', new, a1, rfl, a3, a4, a5, a6⟩) fun _ h => h
theorem fresh_ne3 {x d : Addr} {q1 q2 q3 : Addr × Obj} {zs new : List (Addr × Obj)} (hf : Fresh x d (q1 :: q2 :: q3 :: zs) new) (hz : ∀ q ∈ zs, q.1 ≠ d) : ∀ q ∈ new ++ zs, q.1 ≠ d := fun q hq => by
  rcases List.mem_append.mp hq with h | h
  · exact Nat.ne_of_gt (hf q h).2.1
  · exact hz q h
theorem fresh_ne1 {x d : Addr} {q1 q2 q3 : Addr × Obj} {zs new : List (Addr × Obj)} (hf : Fresh x d (q1 :: q2 :: q3 :: zs) new) (hz : ∀ q ∈ zs, q.1 ≠ q1.1) : ∀ q ∈ new ++ zs, q.1 ≠ q1.1 := fun q hq => by
  rcases List.mem_append.mp hq with h | h
  · exact Nat.ne_of_gt ((hf q h).2.2 _ (.head _))
  · exact hz q h
theorem cmd_block {line : List Tk → PRes} {ts : List Tk} (h : isIn [40] ts = true) : pCommand line ts = pBlock line ts := by unfold pCommand; rw [if_pos h]
theorem cmd_none1 {line : List Tk → PRes} {ts : List Tk} (h : isIn [40] ts = false) (h2 : pReds [] ts = none) : pCommand line ts = none := by
  unfold pCommand; rw [if_neg (ne_true_of_eq_false h), h2]
def cmdFin : Option (List Str × List Red × List Tk) → PRes
  | none => none
  | some (args, acc', ts2) => some (wrap acc' (.run args), ts2)
theorem cmd_args {line : List Tk → PRes} {ts ts1 : List Tk} {acc : List Red} (h : isIn [40] ts = false) (h2 : pReds [] ts = some (acc, ts1)) : pCommand line ts = cmdFin (pArgs (ts1.length + 1) [] acc ts1) := by
  unfold pCommand; rw [if_neg (ne_true_of_eq_false h), h2]; simp only; generalize pArgs (ts1.length + 1) [] acc ts1 = o; cases o <;> rfl
theorem fin_none {line : List Tk → PRes} {ts : List Tk} {o : Option (List Str × List Red × List Tk)} (e : pCommand line ts = cmdFin o) (h : o = none) : pCommand line ts = none := by rw [e, h]; rfl
theorem pReds_acc : ∀ (ts : List Tk) (a b : List Red), pReds (a ++ b) ts = (pReds a ts).map fun r => (r.1 ++ b, r.2)
  | [], _, _ => by simp [pReds]
  | .wd _ :: _, _, _ => by simp [pReds]
  | [.sg c tw], _, _ => by
    simp only [pReds]; split <;> rfl
  | .sg c tw :: .sg _ _ :: _, _, _ => by
    simp only [pReds]; split <;> rfl
  | .sg c tw :: .wd s :: ts, a, b => by
    simp only [pReds]
    split
    · exact pReds_acc ts ((s, c, tw) :: a) b
    · rfl
theorem pReds_from {ts ts' : List Tk} {acc rs : List Red} (h : pReds [] ts = some (rs, ts')) : pReds acc ts = some (rs ++ acc, ts') := by
  have := pReds_acc ts [] acc
  rw [h] at this; exact this
theorem pReds_from0 {ts : List Tk} {acc : List Red} (h : pReds [] ts = none) : pReds acc ts = none := by
  have := pReds_acc ts [] acc
  rw [h] at this; exact this
variable {k : Nat} {args : List Str} {acc rs : List Red} {tsA tsB : List Tk}
theorem args_stop1 (h : tsA.isEmpty = true) : pArgs (k + 1) args acc tsA = some (args, acc, tsA) := by unfold pArgs; rw [h]; rfl
theorem args_stop2 (h : isIn [124, 41, 38, 59] tsA = true) : pArgs (k + 1) args acc tsA = some (args, acc, tsA) := by unfold pArgs; rw [h, Bool.or_true]; rfl
theorem args_go (h1 : tsA.isEmpty = false) (h2 : isIn [124, 41, 38, 59] tsA = false) : pArgs (k + 1) args acc tsA = (if isWord tsA = false then none
    else if args.length = 9 then none
    else match pReds acc tsA.tail with
      | none => none
      | some (acc', ts') => pArgs k (args ++ [wordOf tsA]) acc' ts') := by
  rw [pArgs, h1, h2]; rfl
theorem args_bad1 (h1 : tsA.isEmpty = false) (h2 : isIn [124, 41, 38, 59] tsA = false) (h3 : isWord tsA = false) : pArgs (k + 1) args acc tsA = none := by
  rw [args_go h1 h2, if_pos h3]
theorem args_bad2 (h1 : tsA.isEmpty = false) (h2 : isIn [124, 41, 38, 59] tsA = false) (h3 : isWord tsA = true) (h4 : args.length = 9) : pArgs (k + 1) args acc tsA = none := by
  rw [args_go h1 h2, if_neg (by rw [h3]; decide), if_pos h4]
theorem args_bad3 (h1 : tsA.isEmpty = false) (h2 : isIn [124, 41, 38, 59] tsA = false) (h3 : isWord tsA = true) (h5 : pReds [] tsA.tail = none) : pArgs (k + 1) args acc tsA = none := by
  rw [args_go h1 h2, if_neg (by rw [h3]; decide), pReds_from0 h5]
  split <;> rfl
theorem args_step (h1 : tsA.isEmpty = false) (h2 : isIn [124, 41, 38, 59] tsA = false) (h3 : isWord tsA = true) (h4 : ¬ args.length = 9) (h5 : pReds [] tsA.tail = some (rs, tsB)) : pArgs (k + 1) args acc tsA = pArgs k (args ++ [wordOf tsA]) (rs ++ acc) tsB := by
  rw [args_go h1 h2, if_neg (by rw [h3]; decide), if_neg h4, pReds_from h5]
theorem datAll_len {news : List (Addr × Obj)} : ∀ {vs : List Value} {ds : List Dat}, DatAll news vs ds → vs.length = ds.length
  | _, _, .nil => rfl
  | _, _, .cons _ h => congrArg (· + 1) (datAll_len h)
theorem datAll_snoc {news : List (Addr × Obj)} {v : Value} {d : Dat} (hv : DatIn news v d) : ∀ {vs : List Value} {ds : List Dat}, DatAll news vs ds → DatAll news (vs ++ [v]) (ds ++ [d])
  | _, _, .nil => .cons hv .nil
  | _, _, .cons h r => .cons h (datAll_snoc hv r)
theorem word_NzCmd_1 : True := by
  k_with "my call ref" => (k_here; (with_reducible show wpAny _ _ (call (Value.ref 178) _ _) _ _ _); k_dflt (refine con_go (by k_asm) (by exact fun _ hp => hp) (by k_asm) (by k_asm) (by k_asm) (by k_asm) (by exact rfl) (next_is_t (by k_all) (by assumption) (by assumption) (by assumption) (by assumption) (by first | exact lit_lg | exact lit_amp | exact lit_semi | exact lit_bar | exact lit_close | exact lit_open | exact lit_ends) (by decide)) (by ((try simp only [depth_deeper, ktrTop]); omega)) (by ((try simp only [units_deeper, ktrTop]); omega)) (by exact fun _ hc => hc.elim) ?_; intro r9 news9 h9 tk9 F9 N9 hP9; refine Exists.elim hP9 ?_; clear hP9; intro p9 hP9; refine Exists.elim hP9 ?_; clear hP9; intro tp9 hP9; refine And.elim ?_ hP9; clear hP9; intro hr9 hP9; refine And.elim ?_ hP9; clear hP9; intro hn9 hP9; subst hr9; subst hn9; refine And.elim ?_ hP9; clear hP9; intro hp9 hP9; refine And.elim ?_ hP9; clear hP9; intro ht9 hP9; (try k_sweep); (try dsimp only); (try k_fold)))
  trivial
theorem word_NzCmd_2 : True := by
  k_with "my call ref" => (k_here; (with_reducible show wpAny _ _ (call (Value.ref 185) _ _) _ _ _); k_dflt (refine con_go (by k_asm) (by exact fun _ hp => hp) (by k_asm) (by k_asm) (by k_asm) (by k_asm) (by exact rfl) (at_end_t (by k_all) (by assumption) (by assumption) (by assumption) (by assumption)) (by ((try simp only [depth_deeper, ktrTop]); omega)) (by ((try simp only [units_deeper, ktrTop]); omega)) (by exact fun _ hc => hc.elim) ?_; intro r9 news9 h9 tk9 F9 N9 hP9; refine Exists.elim hP9 ?_; clear hP9; intro p9 hP9; refine Exists.elim hP9 ?_; clear hP9; intro tp9 hP9; refine And.elim ?_ hP9; clear hP9; intro hr9 hP9; refine And.elim ?_ hP9; clear hP9; intro hn9 hP9; subst hr9; subst hn9; refine And.elim ?_ hP9; clear hP9; intro hp9 hP9; refine And.elim ?_ hP9; clear hP9; intro ht9 hP9; (try k_sweep); (try dsimp only); (try k_fold)))
  trivial
theorem word_NzCmd_3 : True := by
  k_with "my call ref" => (k_here; (with_reducible show wpAny _ _ (call (Value.ref 199) _ _) _ _ _); k_dflt (refine con_go (by k_asm) (by exact fun _ hp => hp) (by k_asm) (by k_asm) (by k_asm) (by k_asm) (by exact rfl) (is_word_t (by k_all) (by assumption) (by assumption) (by assumption) (by assumption)) (by ((try simp only [depth_deeper, ktrTop]); omega)) (by ((try simp only [units_deeper, ktrTop]); omega)) (by exact fun _ hc => hc.elim) ?_; intro r9 news9 h9 tk9 F9 N9 hP9; refine Exists.elim hP9 ?_; clear hP9; intro p9 hP9; refine Exists.elim hP9 ?_; clear hP9; intro tp9 hP9; refine And.elim ?_ hP9; clear hP9; intro hr9 hP9; refine And.elim ?_ hP9; clear hP9; intro hn9 hP9; subst hr9; subst hn9; refine And.elim ?_ hP9; clear hP9; intro hp9 hP9; refine And.elim ?_ hP9; clear hP9; intro ht9 hP9; (try k_sweep); (try dsimp only); (try k_fold)))
  trivial
theorem word_NzCmd_4 : True := by
  k_with "my call ref" => (k_here; (with_reducible show wpAny _ _ (call (Value.ref 206) _ _) _ _ _); k_dflt (refine con_go (by k_asm) (by exact fun _ hp => hp) (by k_asm) (by k_asm) (by k_asm) (by k_asm) (by exact rfl) (word_t (by k_all) (by assumption) (by assumption) (by assumption) (by assumption) (by assumption)) (by ((try simp only [depth_deeper, ktrTop]); omega)) (by ((try simp only [units_deeper, ktrTop]); omega)) (by exact fun _ hc => hc.elim) ?_; intro r9 news9 h9 tk9 F9 N9 hP9; refine Exists.elim hP9 ?_; clear hP9; intro p9 hP9; refine Exists.elim hP9 ?_; clear hP9; intro tp9 hP9; refine Exists.elim hP9 ?_; clear hP9; intro tr9 hP9; refine And.elim ?_ hP9; clear hP9; intro hr9 hP9; refine And.elim ?_ hP9; clear hP9; intro hn9 hP9; subst hr9; subst hn9; refine And.elim ?_ hP9; clear hP9; intro hp9 hP9; (try k_sweep); (try dsimp only); (try k_fold)))
  trivial
theorem word_NzCmd_5 : True := by
  k_with "my call ref" => (k_here; (with_reducible show wpAny _ _ (call (Value.ref 192) _ _) _ _ _); k_dflt (refine con_go (by k_asm) (by exact fun _ hp => hp) (by k_asm) (by k_asm) (by k_asm) (by k_asm) (by exact rfl) (sign_t (by k_all) (by assumption) (by assumption) (by assumption) (by assumption) (by assumption) (by assumption)) (by ((try simp only [depth_deeper, ktrTop]); omega)) (by ((try simp only [units_deeper, ktrTop]); omega)) (by exact fun _ hc => hc.elim) ?_; intro r9 news9 h9 tk9 F9 N9 hP9; refine Exists.elim hP9 ?_; clear hP9; intro p9 hP9; refine Exists.elim hP9 ?_; clear hP9; intro tp9 hP9; refine Exists.elim hP9 ?_; clear hP9; intro tr9 hP9; refine And.elim ?_ hP9; clear hP9; intro hr9 hP9; refine And.elim ?_ hP9; clear hP9; intro hn9 hP9; subst hr9; subst hn9; refine And.elim ?_ hP9; clear hP9; intro hp9 hP9; (try k_sweep); (try dsimp only); (try k_fold)))
  trivial
theorem word_NzCmd_6 : True := by
  k_with "my call ref" => (k_here; (with_reducible show wpAny _ _ (call (Value.ref 220) _ _) _ _ _); k_dflt (refine con_go (by k_asm) (by exact fun _ hp => hp) (by k_asm) (by k_asm) (by k_asm) (by k_asm) (by exact rfl) (fault_con (by first | assumption | decide +kernel | omega)) (by ((try simp only [depth_deeper, ktrTop]); omega)) (by ((try simp only [units_deeper, ktrTop]); omega)) (by exact fun _ hc => hc.elim) ?_; intro r9 news9 h9 tk9 F9 N9 hP9; refine Exists.elim hP9 ?_; clear hP9; intro e9 hP9; refine Exists.elim hP9 ?_; clear hP9; intro t9 hP9; refine Exists.elim hP9 ?_; clear hP9; intro dx9 hP9; refine Exists.elim hP9 ?_; clear hP9; intro od9 hP9; refine Exists.elim hP9 ?_; clear hP9; intro ot9 hP9; refine And.elim ?_ hP9; clear hP9; intro hr9 hP9; refine And.elim ?_ hP9; clear hP9; intro hn9 hP9; subst hr9; subst hn9; (try k_sweep); (try dsimp only); (try k_fold)))
  trivial
theorem word_NzCmd_7 : True := by
  k_with "my exec Raise some none" => (refine raise_open ?_)
  trivial
theorem word_NzCmd_8 : True := by
  k_with "my RaiseRest" => (rename News _ _ _ ((_, excObj 64 _ _) :: _) => N9; rename Fr _ _ _ _ => F9; refine raise_done (C := 64) rfl (by exact (Frag.In.keeps (by assumption) (Fr.keep F9)) _ _ (by k_is)) (by decide +kernel) (N9 _ (.head _)).1 ?_; refine leave_raiseX (by assumption) F9 N9 (.head _) rfl rfl rfl (fun h8 R8 U8 => ?_); with_reducible rename (∀ (cls : Value), _ → ∀ (e : Addr) (g h' : Heap) (tk' : Nat), RaisedX _ _ _ _ _ _ → _) => exc8; exact exc8 _ ⟨rfl, by tb_start⟩ _ _ _ _ R8 (by assumption) U8)
  trivial
theorem word_NzCmd_9 : True := by
  k_with "my call ref" => (k_here; (with_reducible show wpAny _ _ (call (Value.ref 248) _ _) _ _ _); k_dflt (refine con_go (by k_asm) (by exact fun _ hp => hp) (by k_asm) (by k_asm) (by k_asm) (by k_asm) (by exact rfl) (reds_con3 (by k_ne) (by k_ne) (by k_ne) (by k_all) (by assumption) (by assumption) (by assumption) (by assumption)) (by ((try simp only [depth_deeper, ktrTop]); omega)) (by ((try simp only [units_deeper, ktrTop]); omega)) (by (intro cls8 hc8 e8 g8 h8 tk8 R8 F8 U8; with_reducible rename (∀ (cls : Value), _ → ∀ (e : Addr) (g h' : Heap) (tk' : Nat), RaisedX _ _ _ _ _ _ → _) => exc8; refine leave_onX (by assumption) F8 R8 U8 ?_; intro h7 R7 U7; exact exc8 _ ⟨And.left hc8, by (have hn8 := And.right hc8; tb_start)⟩ _ _ _ _ R7 (by assumption) U7)) ?_; intro r9 news9 h9 tk9 F9 N9 hP9; refine Exists.elim hP9 ?_; clear hP9; intro acc9 hP9; refine Exists.elim hP9 ?_; clear hP9; intro ts9 hP9; refine Exists.elim hP9 ?_; clear hP9; intro p9 hP9; refine Exists.elim hP9 ?_; clear hP9; intro tp9 hP9; refine Exists.elim hP9 ?_; clear hP9; intro new9 hP9; refine And.elim ?_ hP9; clear hP9; intro hpl9 hP9; refine And.elim ?_ hP9; clear hP9; intro hn9 hP9; subst hn9; refine And.elim ?_ hP9; clear hP9; intro hp9 hP9; refine And.elim ?_ hP9; clear hP9; intro ht9 hP9; refine And.elim ?_ hP9; clear hP9; intro hfr9 hP9; have hz9 := fresh_ne3 hfr9 (by assumption); have hy9 := fresh_ne1 hfr9 (by assumption); (try k_sweep); (try dsimp only); (try k_fold)))
  trivial
theorem word_NzCmd_10 : True := by
  k_with "my call ref" => (k_here; (with_reducible show wpAny _ _ (call (Value.ref 255) _ _) _ _ _); k_dflt (refine con_go (by k_asm) (by exact fun _ hp => hp) (by k_asm) (by k_asm) (by k_asm) (by k_asm) (by exact rfl) (treeC_useI (by assumption) (by assumption) (by k_all) (by assumption) (by assumption) (by assumption) (by assumption) (by assumption)) (by ((try simp only [depth_deeper, ktrTop]); omega)) (by ((try simp only [units_deeper, ktrTop]); omega)) (by (intro cls8 hc8 e8 g8 h8 tk8 R8 F8 U8; with_reducible rename (∀ (cls : Value), _ → ∀ (e : Addr) (g h' : Heap) (tk' : Nat), RaisedX _ _ _ _ _ _ → _) => exc8; refine leave_onX (by assumption) F8 R8 U8 ?_; intro h7 R7 U7; exact exc8 _ ⟨And.left hc8, by (have hn8 := And.right hc8; tb_start)⟩ _ _ _ _ R7 (by assumption) U7)) ?_; intro r9 news9 h9 tk9 F9 N9 hP9; refine Exists.elim hP9 ?_; clear hP9; intro t9 hP9; refine Exists.elim hP9 ?_; clear hP9; intro ts9 hP9; refine Exists.elim hP9 ?_; clear hP9; intro p9 hP9; refine Exists.elim hP9 ?_; clear hP9; intro tp9 hP9; refine Exists.elim hP9 ?_; clear hP9; intro new9 hP9; refine And.elim ?_ hP9; clear hP9; intro hpl9 hP9; refine And.elim ?_ hP9; clear hP9; intro hn9 hP9; subst hn9; refine And.elim ?_ hP9; clear hP9; intro hp9 hP9; refine And.elim ?_ hP9; clear hP9; intro ht9 hP9; refine And.elim ?_ hP9; clear hP9; intro hfr9 hP9; have hz9 := fresh_ne hfr9 (by assumption); (try k_sweep); (try dsimp only); (try k_fold)))
  trivial
theorem word_NzCmd_11 : True := by
  k_with "my call ref" => (k_here; (with_reducible show wpAny _ _ (call (Value.ref 83) _ _) _ _ _); k_dflt (refine con_go (by k_asm) (by exact fun _ hp => hp) (by k_asm) (by k_asm) (by k_asm) (by k_asm) (by exact rfl) (run_con) (by ((try simp only [depth_deeper, ktrTop]); omega)) (by ((try simp only [units_deeper, ktrTop]); omega)) (by exact fun _ hc => hc.elim) ?_; intro r9 news9 h9 tk9 F9 N9 hP9; refine Exists.elim hP9 ?_; clear hP9; intro a9 hP9; refine Exists.elim hP9 ?_; clear hP9; intro da9 hP9; refine Exists.elim hP9 ?_; clear hP9; intro la9 hP9; refine Exists.elim hP9 ?_; clear hP9; intro h19 hP9; refine Exists.elim hP9 ?_; clear hP9; intro t19 hP9; refine Exists.elim hP9 ?_; clear hP9; intro n19 hP9; refine And.elim ?_ hP9; clear hP9; intro hr9 hP9; refine And.elim ?_ hP9; clear hP9; intro hn9 hP9; subst hr9; subst hn9; refine And.elim ?_ hP9; clear hP9; intro l9 hP9; refine And.elim ?_ hP9; clear hP9; intro l8 hP9; have l7 := run_facts l9 l8 hP9; refine And.elim ?_ l7; clear l7; intro l7 hy9; (try dsimp only at l7); (try k_sweep); (try dsimp only); (try k_fold)))
  trivial
theorem len_vs {prog : Program} {w : World} {A : Around} {E : Value → Shared → Prop} {s : Shared} {h₀ : Heap} {L : Addr} {news : List (Addr × Obj)} {l : Addr} {vs : List Value} {n nl : Nat} {Q : Value → Shared → Prop} (N : News h₀ L s.heap news) (hm : (l, listOf vs.toArray nl) ∈ news) (hn : vs.length = n) (hb : n ≤ 1000)
    (h : Q (.int n (s.toks + 1)) { s with toks := s.toks + 1 + 1 }) : wpAny (model prog w) A (call (.builtin "len") [.ref l]) Q E s := by
  refine Calls.call_len_list (News.isList N hm) ?_ ?_
  · rw [List.size_toArray, hn]; have : (n : Int) ≤ 1000 := by omega
    exact Int.lt_of_le_of_lt this (by decide)
  · rw [List.size_toArray, hn]; exact h
theorem append_vs {prog : Program} {w : World} {A : Around} {E : Value → Shared → Prop} {s : Shared} {h₀ : Heap} {L D : Addr} {m : Str → Option Value} {news news' : List (Addr × Obj)} {vs : List Value} {n : Nat} {x : Value} {Q : Value → Shared → Prop} (F : Fr h₀ L s.heap m) (N : News h₀ L s.heap news) (U : Upd D (listOf vs.toArray n) (listOf (vs ++ [x]).toArray (n + 1)) news news')
    (hb : vs.length ≤ 1000) (h : ∀ h', Fr h₀ L h' m → News h₀ L h' news' → Q .none { s with heap := h' }) : wpAny (model prog w) A (call (.builtin "list.append") [.ref D, x]) Q E s := by
  refine append_K (its := vs.toArray) (n := n) F N ?_ h ?_
  · rw [List.push_toArray]; exact U
  · rw [List.size_toArray, sizeLine_eq]; omega
theorem if1 {a b : Str} {A B A' : Option Value} {f : Str → Option Value} : (fun y => if y = a then A else if y = a then A' else if y = b then B else f y) = fun y => if y = a then A else if y = b then B else f y := by
  funext y
  by_cases h1 : y = a
  · simp only [h1, if_true]
  · simp only [h1, if_false]
theorem fresh_cmd {x d la a da : Addr} {zs new : List (Addr × Obj)} {ol oa od : Obj} (o1 : @LT.lt Nat _ x da) (o2 : @LT.lt Nat _ d da) (o3 : @LT.lt Nat _ da a) (o4 : @LT.lt Nat _ a la) (o5 : ∀ q ∈ zs, @LT.lt Nat _ q.1 da) (o6 : ∀ q ∈ new, @LT.lt Nat _ la q.1) :
    Fresh x d zs ((la, ol) :: (a, oa) :: (da, od) :: new) := by
  have key : ∀ b : Nat, @LE.le Nat _ da b → @LT.lt Nat _ x b ∧ @LT.lt Nat _ d b ∧ ∀ o ∈ zs, @LT.lt Nat _ o.1 b := fun b hb => ⟨Nat.lt_of_lt_of_le o1 hb, Nat.lt_of_lt_of_le o2 hb, fun o ho => Nat.lt_of_lt_of_le (o5 o ho) hb⟩
  intro q hq
  simp only [List.mem_cons] at hq
  rcases hq with rfl | rfl | rfl | hq
  · exact key _ (Nat.le_of_lt (Nat.lt_trans o3 o4))
  · exact key _ (Nat.le_of_lt o3)
  · exact key _ (Nat.le_refl _)
  · exact key _ (Nat.le_of_lt (Nat.lt_trans (Nat.lt_trans o3 o4) (o6 q hq)))
theorem tree_cmd {la a da : Addr} {h3 : Int} {t3 : Tok} {nl : Nat} {vs : List Value} {args : List Str} {new : List (Addr × Obj)} {vN : Value} {acc : List Red} (hred : RedIn new (.ref a) vN acc) (hdat : DatAll [] vs (args.map Dat.str)) :
    TreeIn ((la, listOf vs.toArray nl) :: (a, instObj 83 da) :: (da, dictOf [⟨h3, .str (PySem.Str.ofString "arguments") t3, .ref la⟩] 1) :: new) vN (wrap acc (.run args)) :=
  (hred.mono (fun p hp => .tail _ (.tail _ (.tail _ hp)))).tree (.run (.tail _ (.head _)) (.tail _ (.tail _ (.head _))) (.head _) (DatAll.mono (news := []) (fun p hp => absurd hp List.not_mem_nil) hdat))
theorem o6_more {x d la : Addr} {q1 : Obj} {q2 q3 : Addr × Obj} {R new2 new : List (Addr × Obj)} (h : Fresh x d ((la, q1) :: q2 :: q3 :: R) new2) (o6 : ∀ q ∈ new, @LT.lt Nat _ la q.1) : ∀ q ∈ new2 ++ new, @LT.lt Nat _ la q.1 := fun q hq => by
  rcases List.mem_append.mp hq with h' | h'
  · exact (h q h').2.2 _ (.head _)
  · exact o6 q h'
theorem word_NzCmd_12 : True := by
  k_with "my call builtin:len" => (k_here; (with_reducible show wpAny _ _ (call (Value.builtin "len") [Value.ref _]) _ _ _); k_dflt (refine len_vs (by k_asm) (by k_mem) (by assumption) (by omega) ?_))
  trivial
theorem word_NzCmd_13 : True := by
  k_with "my call builtin:list.append" => (k_here; (show wpAny _ _ (call (Value.builtin "list.append") [Value.ref _, _]) _ _ _); k_dflt (refine append_vs (by k_asm) (by k_asm) (by k_upd) (by omega) ?_; k_whole); intro h' F' N'; (try k_sweep))
  trivial
theorem word_NzCmd_14 : True := by
  k_with "my exec While BoolOp cons nil" => refine stop_here ?_
  trivial
theorem word_NzCmd_15 : True := by
  k_with "my tb_start" => first | exact fin_none (by assumption) (args_bad1 (by assumption) (by assumption) (by assumption)) | exact fin_none (by assumption) (args_bad2 (by assumption) (by assumption) (by assumption) (by omega)) | exact fin_none (by assumption) (args_bad3 (by assumption) (by assumption) (by assumption) (by assumption)) | exact (cmd_block (by assumption)).trans (by assumption) | exact cmd_none1 (by assumption) (by assumption)
  trivial
theorem cmd_con {w : World} {mean : ExcName → Option Value} {mg mb : Str → Option Value} {line : List Tk → PRes} {n : Nat} {x d : Addr} {h1 h2 : Int} {t1 t2 : Tok} {T : Str} {tt : Tok} {p : Nat} {tp : Tok} {zs : List (Addr × Obj)} {ts : List Tk} (BC : isIn [40] ts = true → TreeC w mean mg mb 255 (pBlock line) (4 * n + 27) (8 * (4 * n + 27)) ts) (hz : ∀ q ∈ zs, q.1 ≠ d) (hxd : x ≠ d) (hT : T.length ≤ 1000) (hp : p ≤ T.length) (ht : tks T p = ts) :
    Con w mean mg mb 262 [.ref x] ((x, instObj 209 d) :: (d, scOf h1 h2 t1 t2 T tt p tp) :: zs) (4 * n + 28) (8 * (4 * n + 28))
      (fun r news' => ∃ (t : Tree) (ts' : List Tk) (p' : Nat) (tp' : Tok) (new : List (Addr × Obj)), pCommand line ts = some (t, ts') ∧ news' = (x, instObj 209 d) :: (d, scOf h1 h2 t1 t2 T tt p' tp') :: (new ++ zs) ∧ p' ≤ T.length ∧ tks T p' = ts' ∧ Fresh x d zs new ∧ TreeIn new r t)
      (fun c => c = .ref 64 ∧ pCommand line ts = none) := by
  intro dp un gd cn cs a ccd cl outer A₀ base h₀ L m s Q E B F X N TT hk hdp hun ret exc
  refine wpAny_call ?_
  k_dflt ktr_enter
  rename Fr _ _ _ _ => F1
  replace F1 : Fr _ _ _ (fun y => List.lookup y [(PySem.Str.ofString "scanner", .ref x)]) := F1
  k_steps
  · refine ret _ _ _ _ (by assumption) (by assumption) ⟨_, _, _, _, _, (cmd_block (by assumption)).trans (by assumption), rfl, by assumption, by assumption, by assumption, by assumption⟩
  · rename Fr _ _ _ _ => F2
    rename News _ _ _ _ => N2
    rename pReds [] ts = _ => hr
    rename isIn [40] ts = _ => hi
    rename RedIn _ _ _ _ => hrd
    rename Fresh x d _ _ => hfr
    rename (∀ p ∈ (x, _) :: (d, _) :: zs, @LT.lt Nat _ p.1 _) => l9
    unfold Stop
    refine' whl_inv3 F2 N2 (by passes_own) (J := fun k m news => ∃ (la a da : Addr) (h3 : Int) (t3 : Tok) (args : List Str) (acc : List Red) (tsN : List Tk) (pN : Nat) (tpN : Tok) (new R : List (Addr × Obj)) (vN : Value) (vs : List Value) (nl : Nat),
      m = (fun y => if y = PySem.Str.ofString "found" then some vN else if y = PySem.Str.ofString "program" then some (Value.ref a) else List.lookup y [(PySem.Str.ofString "scanner", .ref x)]) ∧ news = (x, instObj 209 d) :: (d, scOf h1 h2 t1 t2 T tt pN tpN) :: (la, listOf vs.toArray nl) :: (a, instObj 83 da) :: (da, dictOf [⟨h3, .str (PySem.Str.ofString "arguments") t3, .ref la⟩] 1) :: R ∧
      R = new ++ zs ∧ tsN.length < k ∧ pN ≤ T.length ∧ tks T pN = tsN ∧ (@LT.lt Nat _ x da ∧ @LT.lt Nat _ d da ∧ @LT.lt Nat _ da a ∧ @LT.lt Nat _ a la) ∧ (∀ q ∈ zs, @LT.lt Nat _ q.1 da) ∧ (∀ q ∈ new, @LT.lt Nat _ la q.1) ∧
      RedIn new (.ref a) vN acc ∧ DatAll [] vs (args.map Dat.str) ∧ args.length ≤ 9 ∧ pCommand line ts = cmdFin (pArgs k args acc tsN) ∧ (∀ q ∈ R, q.1 ≠ d) ∧ (∀ q ∈ R, q.1 ≠ la)) ?h0 ?st
    case h0 => exact ⟨_, _, _, _, _, _, [], _, _, _, _, _, _, _, [], _, rfl, rfl, rfl, Nat.lt_succ_self _, by assumption, by assumption, ⟨l9 _ (.head _), l9 _ (.tail _ (.head _)), by assumption, by assumption⟩, fun q hq => l9 q (.tail _ (.tail _ hq)), fun q hq => (hfr q hq).2.2 _ (.head _), hrd, .nil, Nat.zero_le _, cmd_args hi hr, by assumption, by assumption⟩
    case st =>
      clear N2 F2 hr hi hrd hfr l9
      rintro k m news h tk F1 N1 ⟨la, a, da, h3, t3, args, acc, tsN, pN, tpN, new, R, vN, vs, nl, e0, e1, eR, ek, hpN, htN, ⟨o1, o2, o3, o4⟩, o5, o6, hred, hdat, hlen, hpc, hzR, hyR⟩ R9 IH
      obtain ⟨k, rfl⟩ : ∃ k', k = k' + 1 := ⟨k - 1, by omega⟩
      have hvl : vs.length = args.length := by rw [datAll_len hdat, List.length_map]
      subst e0; subst e1
      k_steps
      · subst eR
        exact ret _ _ _ _ (by assumption) (by assumption) ⟨_, _, _, _, _ :: _ :: _ :: new, hpc.trans (congrArg cmdFin (args_stop1 (by assumption))), rfl, by assumption, by assumption, fresh_cmd o1 o2 o3 o4 o5 o6, tree_cmd hred hdat⟩
      · subst eR
        exact ret _ _ _ _ (by assumption) (by assumption) ⟨_, _, _, _, _ :: _ :: _ :: new, hpc.trans (congrArg cmdFin (args_stop2 (by assumption))), rfl, by assumption, by assumption, fresh_cmd o1 o2 o3 o4 o5 o6, tree_cmd hred hdat⟩
      · subst eR
        rename isWord tsN = true => hw
        rename pReds [] tsN.tail = some _ => hr
        rename Fresh x d _ _ => hfr
        rename RedIn _ vN _ _ => hrd
        have q1 := wtail_lt hw
        have q2 := pReds_le hr
        have q3 : ¬ args.length = 9 := by omega
        refine IH k _ _ _ _ (Nat.lt_succ_self k) (by assumption) (by assumption) ⟨la, a, da, h3, t3, args ++ [wordOf tsN], _, _, _, _, _, _, _, _, _, if1, rfl, (List.append_assoc _ _ _).symm, by omega, by assumption, by assumption, ⟨o1, o2, o3, o4⟩, o5, o6_more hfr o6,
          (hred.mono fun p hp => List.mem_append_right _ hp).app (hrd.mono fun p hp => List.mem_append_left _ hp), ?_, ?_, hpc.trans (congrArg cmdFin (args_step (by assumption) (by assumption) hw q3 hr)), by assumption, by assumption⟩
        · rw [List.map_append]; exact datAll_snoc (.str _ _) hdat
        · rw [List.length_append]; show args.length + 1 ≤ 9; omega
end Mine
end
/-! NzPipe -/
section
open PySem PySem.W PySem.Spec PySem.Calls PyProof.Rows
namespace Mine
theorem word_NzPipe_0 : True := by
  k_with_none
  w_top off
  trivial
set_option maxRecDepth 100000
set_option maxHeartbeats 8000000
set_option linter.all false
theorem fill_pipe : (fun (_ : PySem.W.OpenLaw) (_ : Params → Frag) => True) PySem.Challenge.rw_nz0213_01 hd.heap_1 := by
  k_fill
  trivial
theorem lineC_useQ {w : World} {mean : ExcName → Option Value} {mg mb : Str → Option Value} {f : Addr} {pf : List Tk → PRes} {nd nu : Nat} {ts ts' : List Tk} {cs : List Nat} (C : ∀ ts', ts'.length ≤ ts.length → isIn cs ts' = true → LineC w mean mg mb f pf nd nu ts'.tail) (hle : ts'.length ≤ ts.length) (hi : isIn cs ts' = true)
    {x d : Addr} {h1 h2 : Int} {t1 t2 : Tok} {T : Str} {tt : Tok} {p : Nat} {tp : Tok} {zs : List (Addr × Obj)} (hz : ∀ q ∈ zs, q.1 ≠ d) (hxd : x ≠ d) (hT : T.length ≤ 1000) (hp : p ≤ T.length) (ht : tks T p = ts'.tail) :
  Con w mean mg mb f [.ref x] ((x, instObj 209 d) :: (d, scOf h1 h2 t1 t2 T tt p tp) :: zs) nd nu
    (fun r news' => ∃ (t : Tree) (ts2 : List Tk) (p' : Nat) (tp' : Tok) (new : List (Addr × Obj)), pf ts'.tail = some (t, ts2) ∧ news' = (x, instObj 209 d) :: (d, scOf h1 h2 t1 t2 T tt p' tp') :: (new ++ zs) ∧ p' ≤ T.length ∧ tks T p' = ts2 ∧ Fresh x d zs new ∧ TreeIn new r t)
    (fun c => c = .ref 64 ∧ pf ts'.tail = none) := C ts' hle hi _ _ _ _ _ _ _ _ _ _ _ hz hxd hT hp ht
theorem lineC_mono {w : World} {mean : ExcName → Option Value} {mg mb : Str → Option Value} {f : Addr} {pf : List Tk → PRes} {nd nu nd' nu' : Nat} {ts : List Tk} (C : LineC w mean mg mb f pf nd nu ts) (h1 : nd ≤ nd') (h2 : nu ≤ nu') : LineC w mean mg mb f pf nd' nu' ts :=
  fun _ _ _ _ _ _ _ _ _ _ _ hz hxd hT hp ht => con_mono (C _ _ _ _ _ _ _ _ _ _ _ hz hxd hT hp ht) h1 h2 (fun r n h => ⟨n, fun _ h => h, h⟩) fun _ h => h
theorem pipe_none {line : List Tk → PRes} {k : Nat} {ts : List Tk} (h : pCommand line ts = none) : pPipe line (k + 1) ts = none := by unfold pPipe; rw [h]
theorem pipe_none2 {line : List Tk → PRes} {k : Nat} {ts ts1 : List Tk} {t : Tree} (h : pCommand line ts = some (t, ts1)) (hi : isIn [124] ts1 = true) (h2 : pPipe line k ts1.tail = none) : pPipe line (k + 1) ts = none := by
  unfold pPipe; rw [h]; simp only; rw [if_pos hi, h2]
theorem pipe_one {line : List Tk → PRes} {k : Nat} {ts ts1 : List Tk} {t : Tree} (h : pCommand line ts = some (t, ts1)) (hi : isIn [124] ts1 = false) : pPipe line (k + 1) ts = some (t, ts1) := by
  unfold pPipe; rw [h]; simp only; rw [if_neg (ne_true_of_eq_false hi)]
theorem pipe_two {line : List Tk → PRes} {k : Nat} {ts ts1 ts2 : List Tk} {t t2 : Tree} (h : pCommand line ts = some (t, ts1)) (hi : isIn [124] ts1 = true) (h2 : pPipe line k ts1.tail = some (t2, ts2)) : pPipe line (k + 1) ts = some (.pair (PySem.Str.ofString "|") t t2, ts2) := by
  unfold pPipe; rw [h]; simp only; rw [if_pos hi, h2]
theorem news_app2 {α : Type} {a b e g : α} {n2 n1 zs : List α} : a :: b :: e :: g :: (n2 ++ (n1 ++ zs)) = a :: b :: ((e :: g :: (n2 ++ n1)) ++ zs) := by rw [List.cons_append, List.cons_append, List.append_assoc]
theorem tree_pair {a da : Addr} {h1 h2 h3 : Int} {t1 t2 t3 tsg : Tok} {sg : Str} {l r : Value} {lt rt : Tree} {n1 n2 : List (Addr × Obj)} (hl : TreeIn n1 l lt) (hr : TreeIn n2 r rt) :
    TreeIn ((a, instObj 125 da) :: (da, dictOf [⟨h1, .str (PySem.Str.ofString "sign") t1, .str sg tsg⟩, ⟨h2, .str (PySem.Str.ofString "left") t2, l⟩, ⟨h3, .str (PySem.Str.ofString "right") t3, r⟩] 3) :: (n2 ++ n1)) (.ref a) (.pair sg lt rt) :=
  .pair (.head _) (.tail _ (.head _)) (hl.mono fun p hp => .tail _ (.tail _ (List.mem_append_right _ hp))) (hr.mono fun p hp => .tail _ (.tail _ (List.mem_append_left _ hp)))
theorem word_NzPipe_1 : True := by
  k_with "my call ref" => (k_here; (with_reducible show wpAny _ _ (call (Value.ref 178) _ _) _ _ _); k_dflt (refine con_go (by k_asm) (by exact fun _ hp => hp) (by k_asm) (by k_asm) (by k_asm) (by k_asm) (by exact rfl) (next_is_t (by k_all) (by assumption) (by assumption) (by assumption) (by assumption) (by first | exact lit_lg | exact lit_amp | exact lit_semi | exact lit_bar | exact lit_close | exact lit_open | exact lit_ends) (by decide)) (by ((try simp only [depth_deeper, ktrTop]); omega)) (by ((try simp only [units_deeper, ktrTop]); omega)) (by exact fun _ hc => hc.elim) ?_; intro r9 news9 h9 tk9 F9 N9 hP9; refine Exists.elim hP9 ?_; clear hP9; intro p9 hP9; refine Exists.elim hP9 ?_; clear hP9; intro tp9 hP9; refine And.elim ?_ hP9; clear hP9; intro hr9 hP9; refine And.elim ?_ hP9; clear hP9; intro hn9 hP9; subst hr9; subst hn9; refine And.elim ?_ hP9; clear hP9; intro hp9 hP9; refine And.elim ?_ hP9; clear hP9; intro ht9 hP9; (try k_sweep); (try dsimp only); (try k_fold)))
  trivial
theorem word_NzPipe_2 : True := by
  k_with "my call ref" => (k_here; (with_reducible show wpAny _ _ (call (Value.ref 192) _ _) _ _ _); k_dflt (refine con_go (by k_asm) (by exact fun _ hp => hp) (by k_asm) (by k_asm) (by k_asm) (by k_asm) (by exact rfl) (sign_t (by k_all) (by assumption) (by assumption) (by assumption) (by assumption) (by assumption) (by assumption)) (by ((try simp only [depth_deeper, ktrTop]); omega)) (by ((try simp only [units_deeper, ktrTop]); omega)) (by exact fun _ hc => hc.elim) ?_; intro r9 news9 h9 tk9 F9 N9 hP9; refine Exists.elim hP9 ?_; clear hP9; intro p9 hP9; refine Exists.elim hP9 ?_; clear hP9; intro tp9 hP9; refine Exists.elim hP9 ?_; clear hP9; intro tr9 hP9; refine And.elim ?_ hP9; clear hP9; intro hr9 hP9; refine And.elim ?_ hP9; clear hP9; intro hn9 hP9; subst hr9; subst hn9; refine And.elim ?_ hP9; clear hP9; intro hp9 hP9; (try k_sweep); (try dsimp only); (try k_fold)))
  trivial
theorem word_NzPipe_3 : True := by
  k_with "my call ref" => (k_here; (with_reducible show wpAny _ _ (call (Value.ref 125) _ _) _ _ _); k_dflt (refine con_go (by k_asm) (by exact fun _ hp => hp) (by k_asm) (by k_asm) (by k_asm) (by k_asm) (by exact rfl) (pair_con) (by ((try simp only [depth_deeper, ktrTop]); omega)) (by ((try simp only [units_deeper, ktrTop]); omega)) (by exact fun _ hc => hc.elim) ?_; intro r9 news9 h9 tk9 F9 N9 hP9; refine Exists.elim hP9 ?_; clear hP9; intro a9 hP9; refine Exists.elim hP9 ?_; clear hP9; intro da9 hP9; refine Exists.elim hP9 ?_; clear hP9; intro h19 hP9; refine Exists.elim hP9 ?_; clear hP9; intro h29 hP9; refine Exists.elim hP9 ?_; clear hP9; intro h39 hP9; refine Exists.elim hP9 ?_; clear hP9; intro t19 hP9; refine Exists.elim hP9 ?_; clear hP9; intro t29 hP9; refine Exists.elim hP9 ?_; clear hP9; intro t39 hP9; refine And.elim ?_ hP9; clear hP9; intro hr9 hP9; refine And.elim ?_ hP9; clear hP9; intro hn9 hP9; subst hr9; subst hn9; refine And.elim ?_ hP9; clear hP9; intro l9 hP9; (try k_sweep); (try dsimp only); (try k_fold)))
  trivial
theorem word_NzPipe_4 : True := by
  k_with "my call ref" => (k_here; (with_reducible show wpAny _ _ (call (Value.ref 262) _ _) _ _ _); k_dflt (refine con_go (by k_asm) (by exact fun _ hp => hp) (by k_asm) (by k_asm) (by k_asm) (by k_asm) (by exact rfl) (lineC_use (by assumption) (by k_all) (by assumption) (by assumption) (by assumption) (by assumption)) (by ((try simp only [depth_deeper, ktrTop]); omega)) (by ((try simp only [units_deeper, ktrTop]); omega)) (by (intro cls8 hc8 e8 g8 h8 tk8 R8 F8 U8; with_reducible rename (∀ (cls : Value), _ → ∀ (e : Addr) (g h' : Heap) (tk' : Nat), RaisedX _ _ _ _ _ _ → _) => exc8; refine leave_onX (by assumption) F8 R8 U8 ?_; intro h7 R7 U7; exact exc8 _ ⟨And.left hc8, by (have hn8 := And.right hc8; tb_start)⟩ _ _ _ _ R7 (by assumption) U7)) ?_; intro r9 news9 h9 tk9 F9 N9 hP9; refine Exists.elim hP9 ?_; clear hP9; intro t9 hP9; refine Exists.elim hP9 ?_; clear hP9; intro ts9 hP9; refine Exists.elim hP9 ?_; clear hP9; intro p9 hP9; refine Exists.elim hP9 ?_; clear hP9; intro tp9 hP9; refine Exists.elim hP9 ?_; clear hP9; intro new9 hP9; refine And.elim ?_ hP9; clear hP9; intro hpl9 hP9; refine And.elim ?_ hP9; clear hP9; intro hn9 hP9; subst hn9; refine And.elim ?_ hP9; clear hP9; intro hp9 hP9; refine And.elim ?_ hP9; clear hP9; intro ht9 hP9; refine And.elim ?_ hP9; clear hP9; intro hfr9 hP9; have hz9 := fresh_ne hfr9 (by assumption); have hle9 := pCommand_le (by assumption) _ _ _ hpl9; (try k_sweep); (try dsimp only); (try k_fold)))
  trivial
theorem word_NzPipe_5 : True := by
  k_with "my call ref" => (k_here; (with_reducible show wpAny _ _ (call (Value.ref 241) _ _) _ _ _); k_dflt (refine con_go (by k_asm) (by exact fun _ hp => hp) (by k_asm) (by k_asm) (by k_asm) (by k_asm) (by exact rfl) (lineC_useQ (by assumption) (by assumption) (by assumption) (by k_all) (by assumption) (by assumption) (by assumption) (by assumption)) (by ((try simp only [depth_deeper, ktrTop]); omega)) (by ((try simp only [units_deeper, ktrTop]); omega)) (by (intro cls8 hc8 e8 g8 h8 tk8 R8 F8 U8; with_reducible rename (∀ (cls : Value), _ → ∀ (e : Addr) (g h' : Heap) (tk' : Nat), RaisedX _ _ _ _ _ _ → _) => exc8; refine leave_onX (by assumption) F8 R8 U8 ?_; intro h7 R7 U7; exact exc8 _ ⟨And.left hc8, by (have hn8 := And.right hc8; tb_start)⟩ _ _ _ _ R7 (by assumption) U7)) ?_; intro r9 news9 h9 tk9 F9 N9 hP9; refine Exists.elim hP9 ?_; clear hP9; intro t9 hP9; refine Exists.elim hP9 ?_; clear hP9; intro ts9 hP9; refine Exists.elim hP9 ?_; clear hP9; intro p9 hP9; refine Exists.elim hP9 ?_; clear hP9; intro tp9 hP9; refine Exists.elim hP9 ?_; clear hP9; intro new9 hP9; refine And.elim ?_ hP9; clear hP9; intro hpl9 hP9; refine And.elim ?_ hP9; clear hP9; intro hn9 hP9; subst hn9; refine And.elim ?_ hP9; clear hP9; intro hp9 hP9; refine And.elim ?_ hP9; clear hP9; intro ht9 hP9; refine And.elim ?_ hP9; clear hP9; intro hfr9 hP9; have hz9 := fresh_ne hfr9 (by assumption); (try k_sweep); (try dsimp only); (try k_fold)))
  trivial
theorem word_NzPipe_6 : True := by
  k_with "my tb_start" => first | exact pipe_none (by assumption) | exact pipe_none2 (by assumption) (by assumption) (by assumption)
  trivial
theorem pipe_step {w : World} {mean : ExcName → Option Value} {mg mb : Str → Option Value} {line : List Tk → PRes} {k n : Nat} {ts : List Tk} (hll : LineLe line) (CC : LineC w mean mg mb 262 (pCommand line) (4 * n + 28) (8 * (4 * n + 28)) ts)
    (PC : ∀ ts', ts'.length ≤ ts.length → isIn [124] ts' = true → LineC w mean mg mb 241 (pPipe line k) (4 * n + 28) (8 * (4 * n + 28)) ts'.tail) :
    LineC w mean mg mb 241 (pPipe line (k + 1)) (4 * n + 29) (8 * (4 * n + 29)) ts := by
  intro x d h1 h2 t1 t2 T tt p tp zs hz hxd hT hp ht
  intro dp un gd cn cs a ccd cl outer A₀ base h₀ L m s Q E B F X N TT hk hdp hun ret exc
  refine wpAny_call ?_
  k_dflt ktr_enter
  rename Fr _ _ _ _ => F1
  replace F1 : Fr _ _ _ (fun y => List.lookup y [(PySem.Str.ofString "scanner", .ref x)]) := F1
  k_steps
  · rename isIn [124] _ = true => hi
    rename pPipe line k _ = some _ => e2
    rename pCommand line ts = some _ => e1
    rename Fresh x d zs _ => f1
    rename Fresh x d (_ ++ zs) _ => f2
    rename (∀ p ∈ (x, _) :: (d, _) :: _, @LT.lt Nat _ p.1 _) => l9
    exact ret _ _ _ _ (by assumption) (by assumption) ⟨_, _, _, _, _, pipe_two e1 hi e2, news_app2, by assumption, by assumption, fresh_two l9 (by assumption) (List.append_assoc _ _ _).symm (fresh_app f1 f2), tree_pair (by assumption) (by assumption)⟩
  · exact ret _ _ _ _ (by assumption) (by assumption) ⟨_, _, _, _, _, pipe_one (by assumption) (by assumption), rfl, by assumption, by assumption, by assumption, by assumption⟩
end Mine
end
/-! NzLine -/
section
open PySem PySem.W PySem.Spec PySem.Calls PyProof.Rows
namespace Mine
theorem word_NzLine_0 : True := by
  k_with_none
  w_top off
  trivial
set_option maxRecDepth 100000
set_option maxHeartbeats 8000000
set_option linter.all false
theorem fill_line : (fun (_ : PySem.W.OpenLaw) (_ : Params → Frag) => True) PySem.Challenge.rw_nz0213_01 hd.heap_1 := by
  k_fill
  trivial
def lineFin (n : Nat) (r : Tree × List Tk) : PRes := if isIn [59] r.2 = true then (match pLine n r.2.tail with | none => none | some (t2, ts3) => some (.pair (PySem.Str.ofString ";") r.1 t2, ts3)) else some r
theorem line_none {n : Nat} {ts : List Tk} (h : pPipe (pLine n) (n + 1) ts = none) : pLine (n + 1) ts = none := by rw [pLine, h]
theorem line_fin {n : Nat} {ts ts1 : List Tk} {t : Tree} (h : pPipe (pLine n) (n + 1) ts = some (t, ts1)) : pLine (n + 1) ts = lineFin n (pBack t ts1) := by rw [pLine, h]; rfl
theorem fin_two {n : Nat} {ts ts1 ts2 : List Tk} {t t2 : Tree} (h : pLine (n + 1) ts = lineFin n (pBack t ts1)) (hb : isIn [38] ts1 = false) (hi : isIn [59] ts1 = true) (h2 : pLine n ts1.tail = some (t2, ts2)) : pLine (n + 1) ts = some (.pair (PySem.Str.ofString ";") t t2, ts2) := by
  rw [h, pBack_stop hb, lineFin, if_pos hi, h2]
theorem fin_bad {n : Nat} {ts ts1 : List Tk} {t : Tree} (h : pLine (n + 1) ts = lineFin n (pBack t ts1)) (hb : isIn [38] ts1 = false) (hi : isIn [59] ts1 = true) (h2 : pLine n ts1.tail = none) : pLine (n + 1) ts = none := by
  rw [h, pBack_stop hb, lineFin, if_pos hi, h2]
theorem fin_one {n : Nat} {ts ts1 : List Tk} {t : Tree} (h : pLine (n + 1) ts = lineFin n (pBack t ts1)) (hb : isIn [38] ts1 = false) (hi : isIn [59] ts1 = false) : pLine (n + 1) ts = some (t, ts1) := by
  rw [h, pBack_stop hb, lineFin, if_neg (ne_true_of_eq_false hi)]
theorem fin_step {n : Nat} {ts ts1 : List Tk} {t : Tree} (h : pLine (n + 1) ts = lineFin n (pBack t ts1)) (hb : isIn [38] ts1 = true) : pLine (n + 1) ts = lineFin n (pBack (.back t) ts1.tail) := by rw [h, pBack_step hb]
theorem if0 {a : Str} {A A' : Option Value} {f : Str → Option Value} : (fun y => if y = a then A else if y = a then A' else f y) = fun y => if y = a then A else f y := by
  funext y
  by_cases h1 : y = a
  · simp only [h1, if_true]
  · simp only [h1, if_false]
theorem tree_back {a da : Addr} {h1 : Int} {t1 : Tok} {v : Value} {t : Tree} {new : List (Addr × Obj)} (h : TreeIn new v t) : TreeIn ((a, instObj 146 da) :: (da, dictOf [⟨h1, .str (PySem.Str.ofString "command") t1, v⟩] 1) :: new) (.ref a) (.back t) :=
  .back (.head _) (.tail _ (.head _)) (h.mono fun p hp => .tail _ (.tail _ hp))
theorem word_NzLine_1 : True := by
  k_with "my call ref" => (k_here; (with_reducible show wpAny _ _ (call (Value.ref 178) _ _) _ _ _); k_dflt (refine con_go (by k_asm) (by exact fun _ hp => hp) (by k_asm) (by k_asm) (by k_asm) (by k_asm) (by exact rfl) (next_is_t (by k_all) (by assumption) (by assumption) (by assumption) (by assumption) (by first | exact lit_lg | exact lit_amp | exact lit_semi | exact lit_bar | exact lit_close | exact lit_open | exact lit_ends) (by decide)) (by ((try simp only [depth_deeper, ktrTop]); omega)) (by ((try simp only [units_deeper, ktrTop]); omega)) (by exact fun _ hc => hc.elim) ?_; intro r9 news9 h9 tk9 F9 N9 hP9; refine Exists.elim hP9 ?_; clear hP9; intro p9 hP9; refine Exists.elim hP9 ?_; clear hP9; intro tp9 hP9; refine And.elim ?_ hP9; clear hP9; intro hr9 hP9; refine And.elim ?_ hP9; clear hP9; intro hn9 hP9; subst hr9; subst hn9; refine And.elim ?_ hP9; clear hP9; intro hp9 hP9; refine And.elim ?_ hP9; clear hP9; intro ht9 hP9; (try k_sweep); (try dsimp only); (try k_fold)))
  trivial
theorem word_NzLine_2 : True := by
  k_with "my call ref" => (k_here; (with_reducible show wpAny _ _ (call (Value.ref 192) _ _) _ _ _); k_dflt (refine con_go (by k_asm) (by exact fun _ hp => hp) (by k_asm) (by k_asm) (by k_asm) (by k_asm) (by exact rfl) (sign_t (by k_all) (by assumption) (by assumption) (by assumption) (by assumption) (by assumption) (by assumption)) (by ((try simp only [depth_deeper, ktrTop]); omega)) (by ((try simp only [units_deeper, ktrTop]); omega)) (by exact fun _ hc => hc.elim) ?_; intro r9 news9 h9 tk9 F9 N9 hP9; refine Exists.elim hP9 ?_; clear hP9; intro p9 hP9; refine Exists.elim hP9 ?_; clear hP9; intro tp9 hP9; refine Exists.elim hP9 ?_; clear hP9; intro tr9 hP9; refine And.elim ?_ hP9; clear hP9; intro hr9 hP9; refine And.elim ?_ hP9; clear hP9; intro hn9 hP9; subst hr9; subst hn9; refine And.elim ?_ hP9; clear hP9; intro hp9 hP9; (try k_sweep); (try dsimp only); (try k_fold)))
  trivial
theorem word_NzLine_3 : True := by
  k_with "my call ref" => (k_here; (with_reducible show wpAny _ _ (call (Value.ref 125) _ _) _ _ _); k_dflt (refine con_go (by k_asm) (by exact fun _ hp => hp) (by k_asm) (by k_asm) (by k_asm) (by k_asm) (by exact rfl) (pair_con) (by ((try simp only [depth_deeper, ktrTop]); omega)) (by ((try simp only [units_deeper, ktrTop]); omega)) (by exact fun _ hc => hc.elim) ?_; intro r9 news9 h9 tk9 F9 N9 hP9; refine Exists.elim hP9 ?_; clear hP9; intro a9 hP9; refine Exists.elim hP9 ?_; clear hP9; intro da9 hP9; refine Exists.elim hP9 ?_; clear hP9; intro h19 hP9; refine Exists.elim hP9 ?_; clear hP9; intro h29 hP9; refine Exists.elim hP9 ?_; clear hP9; intro h39 hP9; refine Exists.elim hP9 ?_; clear hP9; intro t19 hP9; refine Exists.elim hP9 ?_; clear hP9; intro t29 hP9; refine Exists.elim hP9 ?_; clear hP9; intro t39 hP9; refine And.elim ?_ hP9; clear hP9; intro hr9 hP9; refine And.elim ?_ hP9; clear hP9; intro hn9 hP9; subst hr9; subst hn9; refine And.elim ?_ hP9; clear hP9; intro l9 hP9; (try k_sweep); (try dsimp only); (try k_fold)))
  trivial
theorem word_NzLine_4 : True := by
  k_with "my call ref" => (k_here; (with_reducible show wpAny _ _ (call (Value.ref 146) _ _) _ _ _); k_dflt (refine con_go (by k_asm) (by exact fun _ hp => hp) (by k_asm) (by k_asm) (by k_asm) (by k_asm) (by exact rfl) (back_con) (by ((try simp only [depth_deeper, ktrTop]); omega)) (by ((try simp only [units_deeper, ktrTop]); omega)) (by exact fun _ hc => hc.elim) ?_; intro r9 news9 h9 tk9 F9 N9 hP9; refine Exists.elim hP9 ?_; clear hP9; intro a9 hP9; refine Exists.elim hP9 ?_; clear hP9; intro da9 hP9; refine Exists.elim hP9 ?_; clear hP9; intro h19 hP9; refine Exists.elim hP9 ?_; clear hP9; intro t19 hP9; refine And.elim ?_ hP9; clear hP9; intro hr9 hP9; refine And.elim ?_ hP9; clear hP9; intro hn9 hP9; subst hr9; subst hn9; refine And.elim ?_ hP9; clear hP9; intro l9 hP9; (try k_sweep); (try dsimp only); (try k_fold)))
  trivial
theorem word_NzLine_5 : True := by
  k_with "my call ref" => (k_here; (with_reducible show wpAny _ _ (call (Value.ref 241) _ _) _ _ _); k_dflt (refine con_go (by k_asm) (by exact fun _ hp => hp) (by k_asm) (by k_asm) (by k_asm) (by k_asm) (by exact rfl) (lineC_use (by assumption) (by k_all) (by assumption) (by assumption) (by assumption) (by assumption)) (by ((try simp only [depth_deeper, ktrTop]); omega)) (by ((try simp only [units_deeper, ktrTop]); omega)) (by (intro cls8 hc8 e8 g8 h8 tk8 R8 F8 U8; with_reducible rename (∀ (cls : Value), _ → ∀ (e : Addr) (g h' : Heap) (tk' : Nat), RaisedX _ _ _ _ _ _ → _) => exc8; refine leave_onX (by assumption) F8 R8 U8 ?_; intro h7 R7 U7; exact exc8 _ ⟨And.left hc8, by (have hn8 := And.right hc8; tb_start)⟩ _ _ _ _ R7 (by assumption) U7)) ?_; intro r9 news9 h9 tk9 F9 N9 hP9; refine Exists.elim hP9 ?_; clear hP9; intro t9 hP9; refine Exists.elim hP9 ?_; clear hP9; intro ts9 hP9; refine Exists.elim hP9 ?_; clear hP9; intro p9 hP9; refine Exists.elim hP9 ?_; clear hP9; intro tp9 hP9; refine Exists.elim hP9 ?_; clear hP9; intro new9 hP9; refine And.elim ?_ hP9; clear hP9; intro hpl9 hP9; refine And.elim ?_ hP9; clear hP9; intro hn9 hP9; subst hn9; refine And.elim ?_ hP9; clear hP9; intro hp9 hP9; refine And.elim ?_ hP9; clear hP9; intro ht9 hP9; refine And.elim ?_ hP9; clear hP9; intro hfr9 hP9; have hz9 := fresh_ne hfr9 (by assumption); have hle9 := pPipe_le (pLine_le _) _ _ _ _ hpl9; (try k_sweep); (try dsimp only); (try k_fold)))
  trivial
theorem word_NzLine_6 : True := by
  k_with "my call ref" => (k_here; (with_reducible show wpAny _ _ (call (Value.ref 234) _ _) _ _ _); k_dflt (refine con_go (by k_asm) (by exact fun _ hp => hp) (by k_asm) (by k_asm) (by k_asm) (by k_asm) (by exact rfl) (lineC_useQ (by assumption) (by assumption) (by assumption) (by k_all) (by assumption) (by assumption) (by assumption) (by assumption)) (by ((try simp only [depth_deeper, ktrTop]); omega)) (by ((try simp only [units_deeper, ktrTop]); omega)) (by (intro cls8 hc8 e8 g8 h8 tk8 R8 F8 U8; with_reducible rename (∀ (cls : Value), _ → ∀ (e : Addr) (g h' : Heap) (tk' : Nat), RaisedX _ _ _ _ _ _ → _) => exc8; refine leave_onX (by assumption) F8 R8 U8 ?_; intro h7 R7 U7; exact exc8 _ ⟨And.left hc8, by (have hn8 := And.right hc8; tb_start)⟩ _ _ _ _ R7 (by assumption) U7)) ?_; intro r9 news9 h9 tk9 F9 N9 hP9; refine Exists.elim hP9 ?_; clear hP9; intro t9 hP9; refine Exists.elim hP9 ?_; clear hP9; intro ts9 hP9; refine Exists.elim hP9 ?_; clear hP9; intro p9 hP9; refine Exists.elim hP9 ?_; clear hP9; intro tp9 hP9; refine Exists.elim hP9 ?_; clear hP9; intro new9 hP9; refine And.elim ?_ hP9; clear hP9; intro hpl9 hP9; refine And.elim ?_ hP9; clear hP9; intro hn9 hP9; subst hn9; refine And.elim ?_ hP9; clear hP9; intro hp9 hP9; refine And.elim ?_ hP9; clear hP9; intro ht9 hP9; refine And.elim ?_ hP9; clear hP9; intro hfr9 hP9; have hz9 := fresh_ne hfr9 (by assumption); (try k_sweep); (try dsimp only); (try k_fold)))
  trivial
theorem word_NzLine_7 : True := by
  k_with "my exec While Call cons nil" => refine stop_here ?_
  trivial
theorem word_NzLine_8 : True := by
  k_with "my tb_start" => first | exact line_none (by assumption) | exact fin_bad (by assumption) (by assumption) (by assumption) (by assumption)
  trivial
theorem line_step {w : World} {mean : ExcName → Option Value} {mg mb : Str → Option Value} {k n : Nat} {ts : List Tk} (CC : LineC w mean mg mb 241 (pPipe (pLine k) (k + 1)) (4 * n + 29) (8 * (4 * n + 29)) ts)
    (PC : ∀ ts', ts'.length ≤ ts.length → isIn [59] ts' = true → LineC w mean mg mb 234 (pLine k) (4 * n + 29) (8 * (4 * n + 29)) ts'.tail) :
    LineC w mean mg mb 234 (pLine (k + 1)) (4 * n + 30) (8 * (4 * n + 30)) ts := by
  intro x d h1 h2 t1 t2 T tt p tp zs hz hxd hT hp ht
  intro dp un gd cn cs a ccd cl outer A₀ base h₀ L m s Q E B F X N TT hk hdp hun ret exc
  refine wpAny_call ?_
  k_dflt ktr_enter
  rename Fr _ _ _ _ => F1
  replace F1 : Fr _ _ _ (fun y => List.lookup y [(PySem.Str.ofString "scanner", .ref x)]) := F1
  k_steps
  rename Fr _ _ _ _ => F2
  rename News _ _ _ _ => N2
  rename pPipe _ _ _ = some _ => hpp
  rename Fresh x d zs _ => hfr
  rename TreeIn _ _ _ => htr
  rename (List.length _ ≤ ts.length) => hle
  unfold Stop
  refine' whl_inv3 F2 N2 (by passes_own) (J := fun k' m news => ∃ (t : Tree) (tsN : List Tk) (pN : Nat) (tpN : Tok) (new R : List (Addr × Obj)) (vN : Value),
      m = (fun y => if y = PySem.Str.ofString "found" then some vN else List.lookup y [(PySem.Str.ofString "scanner", .ref x)]) ∧ news = (x, instObj 209 d) :: (d, scOf h1 h2 t1 t2 T tt pN tpN) :: R ∧ R = new ++ zs ∧ k' = tsN.length ∧ tsN.length ≤ ts.length ∧
      pN ≤ T.length ∧ tks T pN = tsN ∧ Fresh x d zs new ∧ TreeIn new vN t ∧ pLine (k + 1) ts = lineFin k (pBack t tsN) ∧ (∀ q ∈ R, q.1 ≠ d)) ?h0 ?st
  case h0 => exact ⟨_, _, _, _, _, _, _, _, rfl, rfl, rfl, rfl, hle, by assumption, by assumption, hfr, htr, line_fin hpp, by assumption⟩
  case st =>
    clear N2 F2 hpp hfr htr hle
    rintro k' m news h tk F1 N1 ⟨t, tsN, pN, tpN, new, R, vN, e0, e1, eR, ek, hle, hpN, htN, hfr, htr, hfin, hzR⟩ R9 IH
    subst e0; subst e1; subst ek
    k_steps
    · subst eR
      rename isIn [38] tsN = true => hb
      rename (∀ p ∈ (x, _) :: (d, _) :: _, @LT.lt Nat _ p.1 _) => l9
      have q1 := tail_lt hb
      exact IH tsN.tail.length _ _ _ _ (by omega) (by assumption) (by assumption) ⟨.back t, tsN.tail, _, _, _ :: _ :: new, _, _, if0, rfl, rfl, rfl, by omega, by assumption, by assumption, fresh_two l9 (by assumption) rfl hfr, tree_back htr, fin_step hfin hb, ne_two l9 (by assumption) hzR⟩
    · subst eR
      rename (∀ p ∈ (x, _) :: (d, _) :: _, @LT.lt Nat _ p.1 _) => l9
      rename Fresh x d (_ ++ zs) _ => f2
      rename pLine k _ = some _ => e2
      exact ret _ _ _ _ (by assumption) (by assumption) ⟨_, _, _, _, _, fin_two hfin (by assumption) (by assumption) e2, news_app2, by assumption, by assumption, fresh_two l9 (by assumption) (List.append_assoc _ _ _).symm (fresh_app hfr f2), tree_pair htr (by assumption)⟩
    · subst eR
      exact ret _ _ _ _ (by assumption) (by assumption) ⟨_, _, _, _, _, fin_one hfin (by assumption) (by assumption), rfl, by assumption, by assumption, hfr, htr⟩
/-- the parser's line, whole -/
theorem line_con {w : World} {mean : ExcName → Option Value} {mg mb : Str → Option Value} : ∀ (n : Nat) (ts : List Tk), ts.length < n → LineC w mean mg mb 234 (pLine n) (4 * ts.length + 30) (8 * (4 * ts.length + 30)) ts
  | 0, _, h => absurd h (Nat.not_lt_zero _)
  | n + 1, ts, h => by
    have IH := fun ts => line_con (w := w) (mean := mean) (mg := mg) (mb := mb) n ts
    have CC : ∀ ts' : List Tk, ts'.length ≤ n → LineC w mean mg mb 262 (pCommand (pLine n)) (4 * ts'.length + 28) (8 * (4 * ts'.length + 28)) ts' := by
      intro ts' hl x d h1 h2 t1 t2 T tt p tp zs hz hxd hT hp ht
      refine cmd_con (n := ts'.length) (fun hi => ?_) hz hxd hT hp ht
      intro x d h1 h2 t1 t2 T tt p tp zs hz hxd hT hp ht ha
      refine block_con (n := ts'.length) ?_ hz hxd hT hp ht ha hi
      have q1 := tail_lt hi
      exact lineC_mono (nd' := 4 * ts'.length + 26) (nu' := 8 * (4 * ts'.length + 26)) (IH ts'.tail (by omega)) (by omega) (by omega)
    have PP : ∀ (k : Nat) (ts' : List Tk), ts'.length ≤ n → ts'.length < k → LineC w mean mg mb 241 (pPipe (pLine n) k) (4 * ts'.length + 29) (8 * (4 * ts'.length + 29)) ts' := by
      intro k
      induction k with
      | zero => intro ts' _ h; exact absurd h (Nat.not_lt_zero _)
      | succ k ih =>
        intro ts' hl hk
        refine pipe_step (n := ts'.length) (pLine_le n) (CC ts' hl) fun ts2 hle hi => ?_
        have q1 := tail_lt hi
        exact lineC_mono (nd' := 4 * ts'.length + 28) (nu' := 8 * (4 * ts'.length + 28)) (ih ts2.tail (by omega) (by omega)) (by omega) (by omega)
    refine line_step (n := ts.length) (PP (n + 1) ts (by omega) h) fun ts2 hle hi => ?_
    have q1 := tail_lt hi
    exact lineC_mono (nd' := 4 * ts.length + 29) (nu' := 8 * (4 * ts.length + 29)) (IH ts2.tail (by omega)) (by omega) (by omega)
end Mine
end
/-! NzPar -/
section
open PySem PySem.W PySem.Spec PySem.Calls PyProof.Rows
namespace Mine
theorem word_NzPar_0 : True := by
  k_with_none
  w_top off
  trivial
set_option maxRecDepth 100000
set_option maxHeartbeats 8000000
set_option linter.all false
theorem fill_parse : (fun (_ : PySem.W.OpenLaw) (_ : Params → Frag) => True) PySem.Challenge.rw_nz0213_01 hd.heap_1 := by
  k_fill
  trivial
def pAll (ts : List Tk) : Option Tree := match pLine (ts.length + 1) ts with
  | some (t, []) => some t
  | _ => none
theorem scanner_con {w : World} {mean : ExcName → Option Value} {mg mb : Str → Option Value} {T : Str} {tt : Tok} {zs : List (Addr × Obj)} :
    Con w mean mg mb 209 [.str T tt] zs 6 48
      (fun r news' => ∃ (x d : Addr) (h1 h2 : Int) (t1 t2 tp : Tok), r = .ref x ∧ news' = (x, instObj 209 d) :: (d, scOf h1 h2 t1 t2 T tt ((0 : Nat) : Int) tp) :: zs ∧ (∀ p ∈ zs, @LT.lt Nat _ p.1 d) ∧ @LT.lt Nat _ d x) NoExc := by
  intro dp un gd cn cs a ccd cl outer A₀ base h₀ L m s Q E B F X N TT hk hdp hun ret exc
  k_dflt (refine' call_cls ?k1 ?k2 ?k3 ?k4 ?k5 ?k6 ?_; (case k1 => k_asm); (case k2 => k_asm); (case k3 => k_asm); (case k4 => k_is); (case k5 => k_is); (case k6 => k_is); k_whole; intro x' d' h' F' N' l1 l2)
  have hne : ∀ p ∈ zs, p.1 ≠ d' := fun p hp => Nat.ne_of_lt (l1 p hp)
  k_lt2 l2
  k_dflt (refine' code_def ?k1 ?k2 ?k3 ?k4 ?k5 ?kA ?kF ?kK ?k6 ?k7 ?k8 ?k9 ?kB ?_ ?c2 ?c3 ?c4 ?c5; (case kA => exact rfl); (case kF => exact rfl); (case kK => assumption); (case k1 => k_asm); (case k2 => k_asm); (case k3 => k_asm); (case k4 => k_asm); (case k5 => k_asm); (case k6 => k_is); (case k7 => k_is); (case k8 => (first | omega | ((try simp only [depth_deeper, depth_under_make, depth_in1, ktrTop]); omega) | (simp only [depth_deeper, depth_under_make, ktrTop] ; omega))); (case k9 => exact BindsTo.of_eq rfl); (case c5 => decide); (case kB => exact locs rfl); (case c2 => exact rfl); (case c3 => exact rfl); (case c4 => exact rfl); k_whole; intro g' L' h' FG' F' N' B' X' T'; (try dsimp only); (try k_fold))
  rename Fr _ _ _ _ => F1
  replace F1 : Fr _ _ _ (fun y => List.lookup y [(PySem.Str.ofString "line", .str T tt), (PySem.Str.ofString "self", .ref x')]) := F1
  k_steps
  rename News h₀ L _ _ => N9
  exact ret _ _ _ _ (by assumption) N9 ⟨_, _, _, _, _, _, _, rfl, rfl, l1, l2⟩
theorem lt_ne {a b : Nat} (h : @LT.lt Nat _ a b) : b ≠ a := Nat.ne_of_gt h
theorem word_NzPar_1 : True := by
  k_with "my call ref" => (k_here; (with_reducible show wpAny _ _ (call (Value.ref 209) _ _) _ _ _); k_dflt (refine con_go (by k_asm) (by exact fun _ hp => hp) (by k_asm) (by k_asm) (by k_asm) (by k_asm) (by exact rfl) (scanner_con) (by ((try simp only [depth_deeper, ktrTop]); omega)) (by ((try simp only [units_deeper, ktrTop]); omega)) (by exact fun _ hc => hc.elim) ?_; intro r9 news9 h9 tk9 F9 N9 hP9; refine Exists.elim hP9 ?_; clear hP9; intro x9 hP9; refine Exists.elim hP9 ?_; clear hP9; intro d9 hP9; refine Exists.elim hP9 ?_; clear hP9; intro h19 hP9; refine Exists.elim hP9 ?_; clear hP9; intro h29 hP9; refine Exists.elim hP9 ?_; clear hP9; intro t19 hP9; refine Exists.elim hP9 ?_; clear hP9; intro t29 hP9; refine Exists.elim hP9 ?_; clear hP9; intro tp9 hP9; refine And.elim ?_ hP9; clear hP9; intro hr9 hP9; refine And.elim ?_ hP9; clear hP9; intro hn9 hP9; subst hr9; subst hn9; refine And.elim ?_ hP9; clear hP9; intro l9 hP9; have hx9 := lt_ne hP9; (try k_sweep); (try dsimp only); (try k_fold)))
  trivial
theorem all_none1 {ts : List Tk} (h : pLine (ts.length + 1) ts = none) : pAll ts = none := by unfold pAll; rw [h]
theorem all_none2 {ts ts1 : List Tk} {t : Tree} (h : pLine (ts.length + 1) ts = some (t, ts1)) (he : ts1.isEmpty = false) : pAll ts = none := by
  unfold pAll; rw [h]
  cases ts1 with
  | nil => cases he
  | cons _ _ => rfl
theorem all_some {ts ts1 : List Tk} {t : Tree} (h : pLine (ts.length + 1) ts = some (t, ts1)) (he : ts1.isEmpty = true) : pAll ts = some t := by
  unfold pAll; rw [h]
  cases ts1 with
  | nil => rfl
  | cons _ _ => cases he
theorem left_len {T : Str} {i : Int} (hT : T.length ≤ 1000) : (PySem.Str.ofString "leftovers: " ++ Txt.slice T (some i) none).length ≤ 2000 := by
  have h := Txt.slice_le T (some i) none
  rw [Str.length_append, show (PySem.Str.ofString "leftovers: ").length = 11 from by decide +kernel]
  omega
theorem word_NzPar_2 : True := by
  k_with "my tb_start" => first | exact all_none1 (by assumption) | exact all_none2 (by assumption) (by assumption)
  trivial
theorem word_NzPar_3 : True := by
  k_with "my call ref" => (k_here; (with_reducible show wpAny _ _ (call (Value.ref 185) _ _) _ _ _); k_dflt (refine con_go (by k_asm) (by exact fun _ hp => hp) (by k_asm) (by k_asm) (by k_asm) (by k_asm) (by exact rfl) (at_end_t (by k_all) (by assumption) (by assumption) (by assumption) (by assumption)) (by ((try simp only [depth_deeper, ktrTop]); omega)) (by ((try simp only [units_deeper, ktrTop]); omega)) (by exact fun _ hc => hc.elim) ?_; intro r9 news9 h9 tk9 F9 N9 hP9; refine Exists.elim hP9 ?_; clear hP9; intro p9 hP9; refine Exists.elim hP9 ?_; clear hP9; intro tp9 hP9; refine And.elim ?_ hP9; clear hP9; intro hr9 hP9; refine And.elim ?_ hP9; clear hP9; intro hn9 hP9; subst hr9; subst hn9; refine And.elim ?_ hP9; clear hP9; intro hp9 hP9; refine And.elim ?_ hP9; clear hP9; intro ht9 hP9; (try k_sweep); (try dsimp only); (try k_fold)))
  trivial
theorem word_NzPar_4 : True := by
  k_with "my call ref" => (k_here; (with_reducible show wpAny _ _ (call (Value.ref 220) _ _) _ _ _); k_dflt (refine con_go (by k_asm) (by exact fun _ hp => hp) (by k_asm) (by k_asm) (by k_asm) (by k_asm) (by exact rfl) (fault_con (by first | exact left_len (by assumption) | assumption | decide +kernel | omega)) (by ((try simp only [depth_deeper, ktrTop]); omega)) (by ((try simp only [units_deeper, ktrTop]); omega)) (by exact fun _ hc => hc.elim) ?_; intro r9 news9 h9 tk9 F9 N9 hP9; refine Exists.elim hP9 ?_; clear hP9; intro e9 hP9; refine Exists.elim hP9 ?_; clear hP9; intro t9 hP9; refine Exists.elim hP9 ?_; clear hP9; intro dx9 hP9; refine Exists.elim hP9 ?_; clear hP9; intro od9 hP9; refine Exists.elim hP9 ?_; clear hP9; intro ot9 hP9; refine And.elim ?_ hP9; clear hP9; intro hr9 hP9; refine And.elim ?_ hP9; clear hP9; intro hn9 hP9; subst hr9; subst hn9; (try k_sweep); (try dsimp only); (try k_fold)))
  trivial
theorem word_NzPar_5 : True := by
  k_with "my exec Raise some none" => (refine raise_open ?_)
  trivial
theorem word_NzPar_6 : True := by
  k_with "my RaiseRest" => (rename News _ _ _ ((_, excObj 64 _ _) :: _) => N9; rename Fr _ _ _ _ => F9; refine raise_done (C := 64) rfl (by exact (Frag.In.keeps (by assumption) (Fr.keep F9)) _ _ (by k_is)) (by decide +kernel) (N9 _ (.head _)).1 ?_; refine leave_raiseX (by assumption) F9 N9 (.head _) rfl rfl rfl (fun h8 R8 U8 => ?_); with_reducible rename (∀ (cls : Value), _ → ∀ (e : Addr) (g h' : Heap) (tk' : Nat), RaisedX _ _ _ _ _ _ → _) => exc8; exact exc8 _ ⟨rfl, by tb_start⟩ _ _ _ _ R8 (by assumption) U8)
  trivial
theorem word_NzPar_7 : True := by
  k_with "my call ref" => (k_here; (with_reducible show wpAny _ _ (call (Value.ref 234) _ _) _ _ _); k_dflt (refine con_go (by k_asm) (by exact fun _ hp => hp) (by k_asm) (by k_asm) (by k_asm) (by k_asm) (by exact rfl) (lineC_use (line_con (List.length _ + 1) _ (Nat.lt_succ_self _)) (by k_all) (by assumption) (by assumption) (by assumption) (by assumption)) (by ((try simp only [depth_deeper, ktrTop]); omega)) (by ((try simp only [units_deeper, ktrTop]); omega)) (by (intro cls8 hc8 e8 g8 h8 tk8 R8 F8 U8; with_reducible rename (∀ (cls : Value), _ → ∀ (e : Addr) (g h' : Heap) (tk' : Nat), RaisedX _ _ _ _ _ _ → _) => exc8; refine leave_onX (by assumption) F8 R8 U8 ?_; intro h7 R7 U7; exact exc8 _ ⟨And.left hc8, by (have hn8 := And.right hc8; tb_start)⟩ _ _ _ _ R7 (by assumption) U7)) ?_; intro r9 news9 h9 tk9 F9 N9 hP9; refine Exists.elim hP9 ?_; clear hP9; intro t9 hP9; refine Exists.elim hP9 ?_; clear hP9; intro ts9 hP9; refine Exists.elim hP9 ?_; clear hP9; intro p9 hP9; refine Exists.elim hP9 ?_; clear hP9; intro tp9 hP9; refine Exists.elim hP9 ?_; clear hP9; intro new9 hP9; refine And.elim ?_ hP9; clear hP9; intro hpl9 hP9; refine And.elim ?_ hP9; clear hP9; intro hn9 hP9; subst hn9; refine And.elim ?_ hP9; clear hP9; intro hp9 hP9; refine And.elim ?_ hP9; clear hP9; intro ht9 hP9; refine And.elim ?_ hP9; clear hP9; intro hfr9 hP9; have hz9 := fresh_ne hfr9 (by first | assumption | exact List.forall_mem_nil _); (try k_sweep); (try dsimp only); (try k_fold)))
  trivial
theorem parse_con {w : World} {mean : ExcName → Option Value} {mg mb : Str → Option Value} {T : Str} {tt : Tok} {n : Nat} (hT : T.length ≤ 1000) (hn : (tks T 0).length = n) :
    Con w mean mg mb 227 [.str T tt] [] (4 * n + 31) (8 * (4 * n + 31))
      (fun r news' => ∃ t, pAll (tks T 0) = some t ∧ TreeIn news' r t)
      (fun c => c = .ref 64 ∧ pAll (tks T 0) = none) := by
  intro dp un gd cn cs a ccd cl outer A₀ base h₀ L m s Q E B F X N TT hk hdp hun ret exc
  refine wpAny_call ?_
  k_dflt ktr_enter
  rename Fr _ _ _ _ => F1
  replace F1 : Fr _ _ _ (fun y => List.lookup y [(PySem.Str.ofString "line", .str T tt)]) := F1
  have h0 : 0 ≤ T.length := Nat.zero_le _
  have ht : tks T 0 = tks T 0 := rfl
  k_steps
  exact ret _ _ _ _ (by assumption) (by assumption) ⟨_, all_some (by assumption) (by assumption), TreeIn.mono (fun p hp => .tail _ (.tail _ (List.mem_append_left _ hp))) (by assumption)⟩
end Mine
end
/-! NzShape -/
section
open PySem PySem.W PySem.Spec PySem.Calls PyProof.Rows
namespace Mine
theorem word_NzShape_0 : True := by
  k_with_none
  w_top off
  trivial
set_option maxRecDepth 100000
set_option maxHeartbeats 8000000
set_option linter.all false
theorem fill_shape : (fun (_ : PySem.W.OpenLaw) (_ : Params → Frag) => True) PySem.Challenge.rw_nz0213_01 hd.heap_1 := by
  k_fill
  trivial
def shp : Tree → Dat
  | .run args => .tuple [.str (PySem.Str.ofString "run"), .list (args.map Dat.str)]
  | .redir c r => .tuple [.str (PySem.Str.ofString "lead"), shp c, .str r.1, .int (mdOf r), .int (fdOf r)]
  | .back c => .tuple [.str (PySem.Str.ofString "back"), shp c]
  | .pair sg l r => .tuple [.str sg, shp l, shp r]
def dep : Tree → Nat
  | .run _ => 1
  | .redir c _ => dep c + 1
  | .back c => dep c + 1
  | .pair _ l r => max (dep l) (dep r) + 1
theorem app_cons {α : Type} {t : α} {n2 n1 zs : List α} : t :: (n2 ++ (n1 ++ zs)) = (t :: (n2 ++ n1)) ++ zs := by rw [List.cons_append, List.append_assoc]
def ShpC (w : World) (mean : ExcName → Option Value) (mg mb : Str → Option Value) (t : Tree) : Prop :=
  ∀ (zs : List (Addr × Obj)) (v : Value), TreeIn zs v t → Con w mean mg mb 283 [v] zs (dep t + 2) (8 * (dep t + 2)) (fun r news' => ∃ new, news' = new ++ zs ∧ DatIn news' r (shp t)) NoExc
theorem shp_use {w : World} {mean : ExcName → Option Value} {mg mb : Str → Option Value} {t : Tree} {zs : List (Addr × Obj)} {v : Value} (C : ShpC w mean mg mb t) (h : TreeIn zs v t) : Con w mean mg mb 283 [v] zs (dep t + 2) (8 * (dep t + 2)) (fun r news' => ∃ new, news' = new ++ zs ∧ DatIn news' r (shp t)) NoExc := C zs v h
theorem shp_use2 {w : World} {mean : ExcName → Option Value} {mg mb : Str → Option Value} {t : Tree} {zs : List (Addr × Obj)} {v : Value} (h : TreeIn zs v t) (C : ShpC w mean mg mb t) : Con w mean mg mb 283 [v] zs (dep t + 2) (8 * (dep t + 2)) (fun r news' => ∃ new, news' = new ++ zs ∧ DatIn news' r (shp t)) NoExc := C zs v h
theorem word_NzShape_1 : True := by
  k_with "my call ref" => (k_here; (with_reducible show wpAny _ _ (call (Value.ref 283) _ _) _ _ _); k_dflt (refine con_go (by k_asm) (by exact fun _ hp => hp) (by k_asm) (by k_asm) (by k_asm) (by k_asm) (by exact rfl) (shp_use2 (by first | assumption | exact TreeIn.mono (fun _ hp => List.mem_append_right _ hp) (by assumption)) (by assumption)) (by ((try simp only [depth_deeper, ktrTop]); omega)) (by ((try simp only [units_deeper, ktrTop]); omega)) (by exact fun _ hc => hc.elim) ?_; intro r9 news9 h9 tk9 F9 N9 hP9; refine Exists.elim hP9 ?_; clear hP9; intro new9 hP9; refine And.elim ?_ hP9; clear hP9; intro hn9 hP9; subst hn9; (try k_sweep); (try dsimp only); (try k_fold)))
  trivial
theorem shape_run {w : World} {mean : ExcName → Option Value} {mg mb : Str → Option Value} {args : List Str} : ShpC w mean mg mb (.run args) := by
  intro zs v hv
  intro dp un gd cn cs a ccd cl outer A₀ base h₀ L m s Q E B F X N TT hk hdp hun ret exc
  cases hv
  rename_i a da la h1 t1 n vs m1 m2 m3 hd
  refine wpAny_call ?_
  k_dflt ktr_enter
  rename Fr _ _ _ _ => F1
  replace F1 : Fr _ _ _ (fun y => List.lookup y [(PySem.Str.ofString "tree", .ref a)]) := F1
  
  k_steps
  exact ret _ _ _ _ (by assumption) (by assumption) ⟨[_], rfl, .tuple (.head _) (.cons (.str _ _) (.cons (.list (.tail _ m3) (hd.mono fun _ hp => .tail _ hp)) .nil))⟩
theorem shape_back {w : World} {mean : ExcName → Option Value} {mg mb : Str → Option Value} {c : Tree} (IH : ShpC w mean mg mb c) : ShpC w mean mg mb (.back c) := by
  intro zs v hv
  intro dp un gd cn cs a ccd cl outer A₀ base h₀ L m s Q E B F X N TT hk hdp hun ret exc
  cases hv
  rename_i a da h1 t1 cv m1 m2 hc
  refine wpAny_call ?_
  k_dflt ktr_enter
  rename Fr _ _ _ _ => F1
  replace F1 : Fr _ _ _ (fun y => List.lookup y [(PySem.Str.ofString "tree", .ref a)]) := F1
  simp only [dep] at hdp hun
  k_steps
  exact ret _ _ _ _ (by assumption) (by assumption) ⟨_ :: _, rfl, .tuple (.head _) (.cons (.str _ _) (.cons (DatIn.mono (fun _ hp => .tail _ hp) (by assumption)) .nil))⟩
theorem shape_redir {w : World} {mean : ExcName → Option Value} {mg mb : Str → Option Value} {c : Tree} {r : Red} (IH : ShpC w mean mg mb c) : ShpC w mean mg mb (.redir c r) := by
  intro zs v hv
  intro dp un gd cn cs a ccd cl outer A₀ base h₀ L m s Q E B F X N TT hk hdp hun ret exc
  cases hv
  rename_i cv a da h1 h2 h3 h4 t1 t2 t3 t4 tp tm tf m1 m2 hc
  refine wpAny_call ?_
  k_dflt ktr_enter
  rename Fr _ _ _ _ => F1
  replace F1 : Fr _ _ _ (fun y => List.lookup y [(PySem.Str.ofString "tree", .ref a)]) := F1
  simp only [dep] at hdp hun
  k_steps
  exact ret _ _ _ _ (by assumption) (by assumption) ⟨_ :: _, rfl, .tuple (.head _) (.cons (.str _ _) (.cons (DatIn.mono (fun _ hp => .tail _ hp) (by assumption)) (.cons (.str _ _) (.cons (.int _ _) (.cons (.int _ _) .nil)))))⟩
theorem shape_pair {w : World} {mean : ExcName → Option Value} {mg mb : Str → Option Value} {sg : Str} {l r : Tree} (IHl : ShpC w mean mg mb l) (IHr : ShpC w mean mg mb r) : ShpC w mean mg mb (.pair sg l r) := by
  intro zs v hv
  intro dp un gd cn cs a ccd cl outer A₀ base h₀ L m s Q E B F X N TT hk hdp hun ret exc
  cases hv
  rename_i a da h1 h2 h3 t1 t2 t3 tsg lv rv m1 m2 hl hr
  refine wpAny_call ?_
  k_dflt ktr_enter
  rename Fr _ _ _ _ => F1
  replace F1 : Fr _ _ _ (fun y => List.lookup y [(PySem.Str.ofString "tree", .ref a)]) := F1
  simp only [dep] at hdp hun
  have hm1 := Nat.le_max_left (dep l) (dep r)
  have hm2 := Nat.le_max_right (dep l) (dep r)
  k_steps
  exact ret _ _ _ _ (by assumption) (by assumption) ⟨_, app_cons, .tuple (.head _) (.cons (.str _ _) (.cons (DatIn.mono (fun _ hp => .tail _ (List.mem_append_right _ hp)) (by assumption)) (.cons (DatIn.mono (fun _ hp => .tail _ hp) (by assumption)) .nil)))⟩
theorem shape_con {w : World} {mean : ExcName → Option Value} {mg mb : Str → Option Value} : ∀ t : Tree, ShpC w mean mg mb t
  | .run _ => shape_run
  | .redir c _ => shape_redir (shape_con c)
  | .back c => shape_back (shape_con c)
  | .pair _ l r => shape_pair (shape_con l) (shape_con r)
end Mine
end
/-! NzRead -/
section
open PySem PySem.W PySem.Spec PySem.Calls PyProof.Rows
namespace Mine
theorem word_NzRead_0 : True := by
  k_with_none
  w_top off
  trivial
set_option maxRecDepth 100000
set_option maxHeartbeats 8000000
set_option linter.all false
theorem fill_read : (fun (_ : PySem.W.OpenLaw) (_ : Params → Frag) => True) PySem.Challenge.rw_nz0213_01 hd.heap_1 := by
  k_fill
  trivial

section
variable {prog : Program} {w : World} {A₀ A : Around} {E : Value → Shared → Prop} {s s' : Shared} {base g G h₀ : Heap} {outer : List Env} {L a e C : Addr} {m : Str → Option Value} {name : Str} {scope : Scope} {cd : Value}
  {b₀ : Stmt} {suite : List Stmt} {pos np : Pos} {rest : List ExceptHandler} {Q : Flow → Shared → Prop} {K : Frag} {p : Program} {loose : List Str} {mean : ExcName → Option Value} {mg mb : Str → Option Value} {x : Str}

/-- a clause that names the very class of what was raised -/
theorem caught_X (R : RaisedX base G (envOf name scope L a cd :: outer) e (.ref C) s'.heap) (F : Fr g L G m) (B : Below A₀ base outer g) (hsm : G.UpToSlots s'.heap) (XB : K.In base) (TB : Top p loose mean mg mb base)
    (D : KtsDicts (outer.filterMap (·.frame)) g) (ex : nsIn K mainGlobals x = some (some (.ref C))) (q : ktsIn K C "BaseException" = true)
    (k : ∀ h' g', KtsTurn (outer.filterMap (·.frame)) g g' → Fr g' L h' m → Below A₀ base outer g' → K.In g' → Top p loose mean mg mb g' → KtsDicts (outer.filterMap (·.frame)) g' →
      wpAny (model prog w) ((A₀.deeper (envOf name scope L a cd)).mark (some (.ref e))) (execs (b₀ :: suite) (envOf name scope L a cd)) Q E { s' with heap := h' })
    (hk : scope.kind = .function := by rfl) (hx : (envOf name scope L a cd).kindOf x = some .globalImplicit := by rfl) (hd : (x == ("__debug__" : Str)) = false := by decide)
    (hE : PassesOwnAt (model prog w) ((A₀.deeper (envOf name scope L a cd)).mark (some (.ref e))) (A₀.deeper (envOf name scope L a cd)) (envOf name scope L a cd) E := by passes_own) :
    wpAny (model prog w) (A₀.deeper (envOf name scope L a cd)) (noteFrame (.ref e) (envOf name scope L a cd))
      (fun _ s₂ => wpAny (model prog w) (A₀.deeper (envOf name scope L a cd)) (setFlight (.ref e) none) (fun _ s₃ =>
        wpAny (model prog w) (A₀.deeper (envOf name scope L a cd)) (handleBy (.ref e) (envOf name scope L a cd) (.ExceptHandler (some (.Name x np)) none (b₀ :: suite) pos :: rest)) Q E s₃) E s₂) E s' := by
  obtain ⟨B', a0, hB, hBG, hfl⟩ := R
  refine wpAny_looks_onW (Around.frames_deeper B.stack) rfl hfl fun h4 hheld4 u4 => ?_
  refine wpAny_landsW hheld4 fun h5 hheld u5 => ?_
  have u45 := u4.trans u5
  obtain ⟨g5, T5, F5, B5⟩ := kts_ground B F hBG hheld.1 (hsm.trans u45)
  have X5 : K.In g5 := XB.keeps B5.stays
  have P5 := topRead_of (TB.keeps B5.stays)
  obtain ⟨ob, hob, hobc⟩ := hheld.there
  obtain ⟨nm, qn, N, bs, bm, hdct, sn, sub, ab, col, dd, k0, k1, k2, k3, k5, newId, hC, hbase, _⟩ := kts_cls X5 q
  refine wpAny_handleBy_cons (codeAny_handlers_test (name_K F5 X5 P5 ex ?_ hk hx hd)) (fun z => by cases z)
  refine wpAny_excMatches_sub_self (F5.keep _ _ hC) hob hobc hbase (codeAny_handlers_suite ?_)
  refine lands_againW hheld fun h6 hfl6 u6 => ?_
  obtain ⟨g6, T6, F6, B6⟩ := kts_ground B F hBG hfl6.1 ((hsm.trans u45).trans u6)
  exact wpAny_passesOwnAt hE (k h6 g6 T6 F6 B6 (XB.keeps B6.stays) (TB.keeps B6.stays) (D.turn T6))
end

/-- how a def that catches goes back -/
def LeaveR (fs gs : List Addr) (A₀ : Around) (base : Heap) (outer : List Env) (K : Frag) (p : Program) (loose : List Str) (mean : ExcName → Option Value) (mg mb : Str → Option Value) (h₀ : Heap) (L : Addr) (m : Str → Option Value) (news : List (Addr × Obj)) (g : Heap) (R : Result → Shared → Prop) (v : Value) (s' : Shared) : Prop :=
  ∃ g' L' m' new, KtsTurn fs g g' ∧ Fr g' L' s'.heap m' ∧ News g' L' s'.heap new ∧ ∀ h1, (∀ p ∈ new, ∀ q ∈ news, p.1 ≠ q.1) → KtsTurn gs h₀ h1 → Fr h1 L s'.heap m → News h1 L s'.heap (new ++ news) → Below A₀ base outer h1 → K.In h1 → Top p loose mean mg mb h1 → KtsDicts gs h1 → R (.ok (.ret v)) s'

theorem leaveR_mk {fs gs : List Addr} {A₀ : Around} {base : Heap} {outer : List Env} {K : Frag} {p : Program} {loose : List Str} {mean : ExcName → Option Value} {mg mb : Str → Option Value} {h₀ : Heap} {L : Addr} {m : Str → Option Value} {news : List (Addr × Obj)} {g : Heap} {R : Result → Shared → Prop} {v : Value} {s' : Shared}
    {g' : Heap} {L' : Addr} {m' : Str → Option Value} {new : List (Addr × Obj)} (T : KtsTurn fs g g') (F : Fr g' L' s'.heap m') (N : News g' L' s'.heap new)
    (k : ∀ h1, (∀ p ∈ new, ∀ q ∈ news, p.1 ≠ q.1) → KtsTurn gs h₀ h1 → Fr h1 L s'.heap m → News h1 L s'.heap (new ++ news) → Below A₀ base outer h1 → K.In h1 → Top p loose mean mg mb h1 → KtsDicts gs h1 → R (.ok (.ret v)) s') : LeaveR fs gs A₀ base outer K p loose mean mg mb h₀ L m news g R v s' := ⟨g', L', m', new, T, F, N, k⟩
section
variable {prog : Program} {w : World} {A₀ A : Around} {s : Shared} {base h₀ : Heap} {outer : List Env} {L a : Addr} {m : Str → Option Value} {cn : Str} {cs : Scope} {ccd : Value} {news : List (Addr × Obj)} {K : Frag} {p : Program} {loose : List Str} {mean : ExcName → Option Value} {mg mb : Str → Option Value}
    {R : Result → Shared → Prop} {name qual : Str} {params : Arguments} {body : List Stmt} {scope : Scope} {dV kV doc pm cdv ct oc : Value} {an od : Option Addr} {osl : Array (Option Value)} {f : Addr} {args : Args} {binds : List (Str × Value)}

/-- a def that catches, entered over the whole heap: what the caller has made stays in sight -/
theorem enter_R (B : Below A₀ base outer h₀) (F : Fr h₀ L s.heap m) (X₀ : K.In h₀) (N : News h₀ L s.heap news) (T : Top p loose mean mg mb h₀) (XB : K.In base) (TB : Top p loose mean mg mb base) (D : KtsDicts (outer.filterMap (·.frame)) h₀)
    (hA : A.frames = some (envOf cn cs L a ccd :: outer))
    (ho : K.lookup f = some ⟨oc, od, .func (fnOf name qual params body scope dV kV doc pm an cdv ct), osl⟩) (hcd : codeIn K cdv qual = true) (hroom : A.depth < recursionLimit)
    (hbind : BindsTo s (fnOf name qual params body scope dV kV doc pm an cdv ct) args binds) (hloc : ∀ y ∈ binds, scope.names.lookup y.1 = some .local)
    (h : ∀ g L' h₁, Fr h₀ L g m → (∀ p ∈ news, g.get? p.1 = some p.2) → Fr g L' h₁ (fun y => binds.reverse.lookup y) → News g L' h₁ [] → Below A base (envOf cn cs L a ccd :: outer) g → K.In g → Top p loose mean mg mb g → KtsDicts ((envOf cn cs L a ccd :: outer).filterMap (·.frame)) g →
      wpAny (model prog w) (A.deeper (envOf qual scope L' f cdv)) (execs body (envOf qual scope L' f cdv))
        (fun fl s' => LeaveR ((envOf cn cs L a ccd :: outer).filterMap (·.frame)) (outer.filterMap (·.frame)) A₀ base outer K p loose mean mg mb h₀ L m news g R (match fl with | .ret v => v | _ => .none) s')
        (fun e s' => wpAny (model prog w) (A.deeper (envOf qual scope L' f cdv)) (leaving (envOf qual scope L' f cdv) e) (fun _ s'' => R (.error e) s'') (fun e' s'' => R (.error e') s'') s')
        { s with heap := h₁, toks := s.toks + binds.length })
    (hck : cs.kind = .function) (hco : scope.isCoroutine = false) (hgen : scope.isGenerator = false) (hk : scope.kind = .function)
    (hcell : ∀ x ∈ scope.names, x.2 ≠ .cell) : codeAny (model prog w) A (.call (.ref f) args) R s := by
  have X := X₀.keeps F.keep
  refine codeAny_call_def (fd := fnOf name qual params body scope dV kV doc pm an cdv ct) (body := body) (binds := binds) hroom (X _ _ ho) rfl (T.nolimit.keeps F.keep) (codeRec_of X hcd) rfl hbind hcell hloc (fun h₁ hns hk₁ => ?_) hco hgen hk
  obtain ⟨oL, es, ep, hLg, hLd, hN, hNs, st, B₂⟩ := kts_enter (news := []) B F News.nil hA hck
  have inG : ∀ p ∈ news, (hideAll s.heap (([] : List (Addr × Obj)).map (·.1))).get? p.1 = some p.2 := fun p hp => hideAll_get _ (N p hp).1 List.not_mem_nil
  have D₂ : KtsDicts ((envOf cn cs L a ccd :: outer).filterMap (·.frame)) (hideAll s.heap (([] : List (Addr × Obj)).map (·.1))) := fun b hb => by
    rcases kts_mem hb with rfl | hb
    · exact ⟨oL, es, ep, hLg, hLd⟩
    · obtain ⟨o, es', n', ho', hd'⟩ := D b hb
      exact ⟨o, es', n', st b o ho', hd'⟩
  refine wpAny_mono (h _ s.heap.objs.size h₁ ⟨hN _ hLg, st, F.above⟩ inG ⟨hns, fun b o e => hk₁ b o (of_hideAll _ e), Nat.le_of_eq (hideAll_size _ _)⟩ News.nil B₂ (X₀.keeps st) (T.keeps st) D₂) (fun fl s' hl => ?_) fun _ _ y => y
  obtain ⟨g', L', m', new, T', F', N', k⟩ := hl
  have nL₀ : h₀.get? L = none := kts_self F
  have off : ∀ p ∈ news, p.1 ∉ (envOf cn cs L a ccd :: outer).filterMap (·.frame) := fun p hp hm => by
    rcases kts_mem hm with z | z
    · exact (N p hp).2.1 z
    · obtain ⟨_, o, ho', _⟩ := B.frames.mem z
      rw [(N p hp).2.2] at ho'; cases ho'
  have old : ∀ p ∈ news, s'.heap.get? p.1 = some p.2 := fun p hp => F'.keep _ _ (T'.other _ _ (inG p hp) (off p hp))
  obtain ⟨sl, hs⟩ := T'.up hLg
  obtain ⟨T₁, S₁⟩ := kts_turn_at (h := s'.heap) (fs := outer.filterMap (·.frame)) (g := h₀)
    (fun b hb => by
      obtain ⟨_, o, ho', _⟩ := B.frames.mem hb
      exact ⟨o, ho'⟩)
    (fun b o e nm => F'.keep b o (T'.other b o (st b o e) (fun q => (kts_mem q).elim (fun z => by rw [z, nL₀] at e; cases e) nm)))
    (fun b o e _ => by
      obtain ⟨sl', hs'⟩ := T'.up (st b o e)
      exact ⟨sl', F'.keep _ _ hs'⟩)
  have B₃ : Below A₀ base outer (ktsHeap s'.heap (outer.filterMap (·.frame)) h₀) := ⟨B.stack, fun b o e => T₁.other b o (B.stays b o e) (fun hm => by
    rw [(B.frames.mem hm).1] at e
    cases e), B.frames.of_keeps fun b o e _ => by
    obtain ⟨sl', hs'⟩ := T₁.up e
    exact ⟨_, hs', rfl⟩⟩
  refine k _ (fun p hp q hq e => by
    have h1 := (N' p hp).2.2
    rw [e, T'.other _ _ (inG q hq) (off q hq)] at h1
    cases h1) T₁ ⟨hNs sl _ (F'.keep _ _ hs), S₁, by rw [T₁.size]; exact F.above⟩ (fun p hp => ?_) B₃ (XB.keeps B₃.stays) (TB.keeps B₃.stays) (D.turn T₁)
  rcases List.mem_append.mp hp with hp | hp
  · refine ⟨(N' p hp).1, fun q => ?_, T₁.none_ _ ?_⟩
    · have := (N' p hp).2.2; rw [q, hs] at this; cases this
    · cases q : h₀.get? p.1 with
      | none => rfl
      | some o =>
        obtain ⟨sl', hs'⟩ := T'.up (st _ _ q)
        have := (N' p hp).2.2
        rw [hs'] at this
        cases this
  · exact ⟨old p hp, (N p hp).2.1, T₁.none_ _ (N p hp).2.2⟩
end

/-- a call of a def that catches -/
def ConR (w : World) (mean : ExcName → Option Value) (mg mb : Str → Option Value) (f : Addr) (args : List Value) (news : List (Addr × Obj)) (nd nu : Nat) (Post : Value → List (Addr × Obj) → Prop) : Prop :=
  ∀ (dp un : Nat) (gd : Option (List Code)) (cn : Str) (cs : Scope) (a : Addr) (ccd : Value) (outer : List Env) (A₀ : Around) (base h₀ : Heap) (L : Addr) (m : Str → Option Value) (s : Shared) (Q E : Value → Shared → Prop),
    Below A₀ base outer h₀ → Fr h₀ L s.heap m → (hd.heap_1 w.params).In h₀ → News h₀ L s.heap news → TopW mean mg mb h₀ → cs.kind = .function → dp + nd < recursionLimit → un + nu < cLine →
    (hd.heap_1 w.params).In base → TopW mean mg mb base → KtsDicts (outer.filterMap (·.frame)) h₀ →
    (∀ r h1 new h' tk', (∀ p ∈ new, ∀ q ∈ news, p.1 ≠ q.1) → KtsTurn (outer.filterMap (·.frame)) h₀ h1 → Fr h1 L h' m → News h1 L h' (new ++ news) → Below A₀ base outer h1 → (hd.heap_1 w.params).In h1 → TopW mean mg mb h1 → KtsDicts (outer.filterMap (·.frame)) h1 → Post r new → Q r { s with heap := h', toks := tk' }) →
    wpAny (model Pg w) (ktrTop dp un gd cn cs L a ccd [] outer) (call (.ref f) args) Q E s

def rdOf (ts : List Tk) : Dat := match pAll ts with
  | some t => shp t
  | none => .str (PySem.Str.ofString "refused")
def rdDep (ts : List Tk) : Nat := match pAll ts with
  | some t => dep t
  | none => 0
theorem rd_some {ts : List Tk} {t : Tree} (h : pAll ts = some t) : rdOf ts = shp t ∧ rdDep ts = dep t := by unfold rdOf rdDep; rw [h]; exact ⟨rfl, rfl⟩
theorem rd_none {ts : List Tk} (h : pAll ts = none) : rdOf ts = .str (PySem.Str.ofString "refused") := by unfold rdOf; rw [h]
theorem word_NzRead_1 : True := by
  k_with "my call ref" => (k_here; (with_reducible show wpAny _ _ (call (Value.ref 283) _ _) _ _ _); k_dflt (refine con_go (by k_asm) (by exact fun _ hp => hp) (by k_asm) (by k_asm) (by k_asm) (by k_asm) (by exact rfl) (shp_use (shape_con _) (by assumption)) (by ((try simp only [depth_deeper, ktrTop]); omega)) (by ((try simp only [units_deeper, ktrTop]); omega)) (by exact fun _ hc => hc.elim) ?_; intro r9 news9 h9 tk9 F9 N9 hP9; refine Exists.elim hP9 ?_; clear hP9; intro new9 hP9; refine And.elim ?_ hP9; clear hP9; intro hn9 hP9; subst hn9; (try k_sweep); (try dsimp only); (try k_fold)))
  trivial
theorem word_NzRead_2 : True := by
  k_with "my call ref" => ((show wpAny _ _ (call (Value.ref 227) _ _) _ _ _); refine stop_here ?_)
  trivial
theorem read_con {w : World} {mean : ExcName → Option Value} {mg mb : Str → Option Value} {T : Str} {tt : Tok} {n : Nat} {news : List (Addr × Obj)} (hT : T.length ≤ 1000) (hn : (tks T 0).length = n) (hdep : rdDep (tks T 0) ≤ n + 10) :
    ConR w mean mg mb 290 [.str T tt] news (4 * n + 40) (8 * (4 * n + 40)) (fun r new => DatIn new r (rdOf (tks T 0))) := by
  intro dp un gd cn cs a ccd outer A₀ base h₀ L m s Q E B F X N TT hk hdp hun XB TB D ret
  refine wpAny_call ?_
  k_dflt (refine' enter_R ?k1 ?k2 ?k3 ?k4 ?k5 ?kXB ?kTB ?kD ?kA ?k6 ?k7 ?k8 ?k9 ?kB ?_ ?cK ?c2 ?c3 ?c4 ?c5; (case kA => exact rfl); (case k2 => k_asm); (case k1 => k_asm); (case kXB => assumption); (case kTB => assumption); (case kD => assumption); (case k3 => k_asm); (case k4 => assumption); (case k5 => k_asm); (case k6 => k_is); (case k7 => k_is); (case k8 => (first | omega | ((try simp only [ktrTop]); omega))); (case k9 => exact BindsTo.of_eq rfl); (case kB => exact locs rfl); (case cK => assumption); (case c2 => exact rfl); (case c3 => exact rfl); (case c4 => exact rfl); (case c5 => decide); k_whole; intro g' L' h' FG' IG' F' N' B' X' T' D'; (try dsimp only); (try k_fold))
  rename Fr _ _ _ _ => F1
  replace F1 : Fr _ _ _ (fun y => List.lookup y [(PySem.Str.ofString "line", .str T tt)]) := F1
  k_steps
  unfold Stop
  refine' con_use (parse_con hT hn) ?b F1 ?x N' ?t rfl (fun _ h => h) ?hd ?hu ?rt ?ex
  case b => assumption
  case x => assumption
  case t => assumption
  case hd => ((try simp only [depth_deeper, ktrTop]); omega)
  case hu => ((try simp only [units_deeper, ktrTop]); omega)
  case rt =>
    rintro r news' h8 tk8 F8 N8 ⟨t, hpt, htr⟩
    have hdt := (rd_some hpt).2
    have hdp2 : dep t ≤ n + 10 := by omega
    (try k_sweep)
    (try dsimp only)
    (try k_fold)
    k_steps
    refine leaveR_mk KtsTurn.refl (by assumption) (by assumption) fun h1 a0 a1 a2 a3 a4 a5 a6 a7 => ret _ _ _ _ _ a0 a1 a2 a3 a4 a5 a6 a7 ?_
    rw [(rd_some hpt).1]; assumption
  case ex =>
    intro cls hc e g8 h8 tk8 R8 F8 U8
    obtain ⟨hcl, hno⟩ := hc
    subst hcl
    refine' caught_X R8 F8 ?b U8 XB TB D' ?e ?q ?_
    case b => assumption
    case e => k_is
    case q => kts_isx
    intro h9 g9 T9 F9 B9 X9 P9 D9
    k_steps
    refine leaveR_mk T9 F9 News.nil fun h1 a0 a1 a2 a3 a4 a5 a6 a7 => ret _ _ _ _ _ a0 a1 a2 a3 a4 a5 a6 a7 ?_
    rw [rd_none hno]; exact .str _ _
end Mine
end
/-! NzTake -/
section
open PySem PySem.W PySem.Spec PySem.Calls PyProof.Rows
namespace Mine
theorem word_NzTake_0 : True := by
  k_with_none
  w_top off
  trivial
set_option maxRecDepth 100000
set_option maxHeartbeats 8000000
set_option linter.all false
theorem fill_take : (fun (_ : PySem.W.OpenLaw) (_ : Params → Frag) => True) PySem.Challenge.rw_nz0213_01 hd.heap_1 := by
  k_fill
  trivial

abbrev poolO (a b : Int) (ta tb : Tok) (n : Nat) : Obj := listOf [Value.int a ta, Value.int b tb].toArray n
def PoolOk (a b : Int) : Prop := 0 ≤ a ∧ a < 10 ^ 90 ∧ 0 ≤ b ∧ b < 2147483647
theorem fmodB {x m : Int} (h : 1 ≤ m) : 0 ≤ x.fmod m ∧ x.fmod m < m := by
  rw [Int.fmod_eq_emod_of_nonneg x (by omega)]
  exact ⟨Int.emod_nonneg _ (by omega), Int.emod_lt_of_pos _ (by omega)⟩
theorem fdivB {x m : Int} (h0 : 0 ≤ x) (h1 : x < 10 ^ 90) (h : 1 ≤ m) : 0 ≤ x.fdiv m := by
  rw [Int.fdiv_eq_ediv_of_nonneg x (by omega)]
  exact Int.ediv_nonneg h0 (by omega)
theorem fdivC {x m : Int} (h0 : 0 ≤ x) (h1 : x < 10 ^ 90) (h : 1 ≤ m) : x.fdiv m < 10 ^ 90 := by
  rw [Int.fdiv_eq_ediv_of_nonneg x (by omega)]
  exact Int.lt_of_le_of_lt (Int.ediv_le_self m h0) h1
theorem take_con {w : World} {mean : ExcName → Option Value} {mg mb : Str → Option Value} {lp : Addr} {pa pb many : Int} {ta tb tm : Tok} {n : Nat} {zs : List (Addr × Obj)} (hz : ∀ q ∈ zs, q.1 ≠ lp) (ha0 : 0 ≤ pa) (ha1 : pa < 10 ^ 90) (hb0 : 0 ≤ pb) (hb1 : pb < 2147483647) (hm1 : 1 ≤ many) (hm2 : many ≤ 12) :
    Con w mean mg mb 276 [.ref lp, .int many tm] ((lp, poolO pa pb ta tb n) :: zs) 2 16
      (fun r news' => ∃ (q a' b' : Int) (tq ta' tb' : Tok), r = .int q tq ∧ news' = (lp, poolO a' b' ta' tb' n) :: zs ∧ (0 ≤ q ∧ q < many) ∧ PoolOk a' b') NoExc := by
  intro dp un gd cn cs a ccd cl outer A₀ base h₀ L m s Q E B F X N TT hk hdp hun ret exc
  refine wpAny_call ?_
  k_dflt ktr_enter
  rename Fr _ _ _ _ => F1
  replace F1 : Fr _ _ _ (fun y => List.lookup y [(PySem.Str.ofString "many", .int many tm), (PySem.Str.ofString "pool", .ref lp)]) := F1
  k_steps
  · exact ret _ _ _ _ (by assumption) (by assumption) ⟨_, _, _, _, _, _, rfl, rfl, fmodB hm1, fdivB ha0 ha1 hm1, (fdivC ha0 ha1 hm1), hb0, hb1⟩
  · exact ret _ _ _ _ (by assumption) (by assumption) ⟨_, _, _, _, _, _, rfl, rfl, fmodB hm1, ha0, ha1, (fmodB (m := 2147483647) (by decide)).1, (fmodB (m := 2147483647) (by decide)).2⟩
end Mine
end
/-! NzFor -/
section
open PySem PySem.W PySem.Spec PySem.Calls PyProof.Rows
namespace Mine
set_option maxRecDepth 100000
set_option maxHeartbeats 8000000
set_option linter.all false

def ins (q : Addr × Obj) : List (Addr × Obj) → List (Addr × Obj)
  | [] => [q]
  | p :: r => p :: q :: r
theorem ins_perm {q : Addr × Obj} : ∀ {l : List (Addr × Obj)} (p : Addr × Obj), p ∈ ins q l ↔ p ∈ q :: l
  | [], p => Iff.rfl
  | a :: r, p => by
    simp only [ins, List.mem_cons]
    constructor
    · rintro (h | h | h) <;> simp [h]
    · rintro (h | h | h) <;> simp [h]

theorem off_upd {a I : Addr} {o o' : Obj} {zs : List (Addr × Obj)} (h : ∀ p ∈ (a, o) :: zs, p.1 ≠ I) : ∀ p ∈ (a, o') :: zs, p.1 ≠ I := fun p hp => by
  rcases List.mem_cons.mp hp with rfl | hp
  · exact h (a, o) (.head _)
  · exact h p (.tail _ hp)
section
variable {prog : Program} {w : World} {A : Around} {E : Value → Shared → Prop} {s : Shared} {env : Env} {h₀ : Heap} {x : Str} {body : List Stmt} {Q : Flow → Shared → Prop}

/-- one turn of a for over a range, by what holds between the turns -/
theorem range_rest (J : Nat → (Str → Option Value) → List (Addr × Obj) → Prop) {I : Addr} {n : Nat}
    (turn : ∀ i m₁ news₁ h tk t it, i < n → (∀ p ∈ news₁, p.1 ≠ I) → J i m₁ news₁ → Fr h₀ env.locals h (fun y => if y = x then some (.int (i : Int) t) else m₁ y) → News h₀ env.locals h (ins (I, it) news₁) →
      ∀ R : Flow → Shared → Prop, (∀ h' tk' m' news', Fr h₀ env.locals h' m' → News h₀ env.locals h' (ins (I, it) news') → (∀ p ∈ news', p.1 ≠ I) → J (i + 1) m' news' → R .next { s with heap := h', toks := tk' }) →
      wpAny (model prog w) A (execs body env) R E { s with heap := h, toks := tk })
    (done : ∀ m₁ news₁ h tk, J n m₁ news₁ → Fr h₀ env.locals h m₁ → News h₀ env.locals h news₁ → Q .next { s with heap := h, toks := tk }) :
    ∀ k i m news, i + k = n → (∀ p ∈ news, p.1 ≠ I) → J i m news → RangeRest prog w A E h₀ env x body Q s I 0 n k i m news := by
  intro k
  induction k with
  | zero =>
    intro i m news hik _ hJ
    have : i = n := by omega
    subst this
    exact RangeRest.zero fun h tk F N => done m news h tk hJ F N
  | succ k ih =>
    intro i m news hik hoff hJ
    refine RangeRest.succ fun t h tk F N => ?_
    rw [Int.zero_add] at F
    refine turn i m news h tk t _ (by omega) hoff hJ F (fun p hp => N p ((ins_perm p).mp hp)) _ fun h' tk' m' news' F' N' hoff' hJ' => ?_
    exact ⟨h', tk', m', news', rfl, F', fun p hp => N' p ((ins_perm p).mpr hp), hoff', ih (i + 1) m' news' (by omega) hoff' hJ'⟩

theorem range_inv {L : Addr} (hL : env.locals = L) {r : Addr} {b₀ : Int} {t₀ u₀ v₀ : Tok} {m₀ : Str → Option Value} {news : List (Addr × Obj)} (hh : A.handled = none) (hr : IsRange s.heap r 0 b₀ 1 t₀ u₀ v₀) (h0 : 0 ≤ b₀) (h1 : b₀ ≤ 1000)
    (F : Fr h₀ L s.heap m₀) (N : News h₀ L s.heap news) (J : Nat → (Str → Option Value) → List (Addr × Obj) → Prop) (hj : J 0 m₀ news)
    (turn : ∀ (i : Nat) m₁ news₁ h tk t (I : Addr) it, (i : Int) < b₀ → (∀ p ∈ news₁, p.1 ≠ I) → J i m₁ news₁ → Fr h₀ L h (fun y => if y = x then some (.int (i : Int) t) else m₁ y) → News h₀ L h (ins (I, it) news₁) →
      ∀ R : Flow → Shared → Prop, (∀ h' tk' m' news', Fr h₀ L h' m' → News h₀ L h' (ins (I, it) news') → (∀ p ∈ news', p.1 ≠ I) → J (i + 1) m' news' → R .next { s with heap := h', toks := tk' }) →
      wpAny (model prog w) A (execs body env) R E { s with heap := h, toks := tk })
    (done : ∀ m₁ news₁ h tk, J b₀.toNat m₁ news₁ → Fr h₀ L h m₁ → News h₀ L h news₁ → Q .next { s with heap := h, toks := tk }) :
    wpAny (model prog w) A (pyIter (.ref r)) (fun it s₂ => LoopAtV prog w A h₀ env x body Q E it s₂) E s := by
  subst hL
  have hn : Builtin.Range.rangeSize 0 b₀ 1 = (b₀.toNat : Int) := by
    have := rangeSize_nat 0 b₀
    rw [this, Int.sub_zero]
  refine iter_rangeUnr hh hr ?_ hn F N fun I hI => ?_
  · unfold Builtin.Range.small Builtin.Range.rangeFitsLong
    rw [hn]
    have c1 : decide (-(2 : Int) ^ 63 ≤ b₀) = true := decide_eq_true (by omega)
    have c2 : decide (b₀ < 2 ^ 63) = true := decide_eq_true (by omega)
    have c3 : decide (-(2 : Int) ^ 63 ≤ (b₀.toNat : Int)) = true := decide_eq_true (by omega)
    have c4 : decide ((b₀.toNat : Int) < 2 ^ 63) = true := decide_eq_true (by omega)
    have c5 : b₀ + (1 - 1) = b₀ := by omega
    have c6 : decide (-(2 : Int) ^ 63 ≤ 1) = true ∧ decide ((1 : Int) < 2 ^ 63) = true ∧ decide (-(2 : Int) ^ 63 ≤ 0) = true ∧ decide ((0 : Int) < 2 ^ 63) = true := by decide
    obtain ⟨d1, d2, d3, d4⟩ := c6
    rw [c5, if_pos (by decide), c1, c2, c3, c4, d1, d2, d3, d4]
    simp
  · exact range_rest J (fun i m₁ news₁ h tk t it hi => turn i m₁ news₁ h tk t I it (by omega)) done b₀.toNat 0 m₀ news (by omega) (fun p hp => Nat.ne_of_lt (hI p hp)) hj
end
end Mine
end
/-! NzGap -/
section
open PySem PySem.W PySem.Spec PySem.Calls PyProof.Rows
namespace Mine
theorem word_NzGap_0 : True := by
  k_with_none
  w_top off
  trivial
set_option maxRecDepth 100000
set_option maxHeartbeats 8000000
set_option linter.all false
theorem fill_gap : (fun (_ : PySem.W.OpenLaw) (_ : Params → Frag) => True) PySem.Challenge.rw_nz0213_01 hd.heap_1 := by
  k_fill
  trivial
theorem if2 {a b : Str} {A B A' B' : Option Value} {f : Str → Option Value} : (fun y => if y = a then A else if y = b then B else if y = a then A' else if y = b then B' else f y) = fun y => if y = a then A else if y = b then B else f y := by
  funext y
  by_cases h1 : y = a
  · simp only [h1, if_true]
  · by_cases h2 : y = b
    · simp only [h1, h2, if_true, if_false]
    · simp only [h1, h2, if_false]
theorem if2_init {a b : Str} {A : Option Value} {l : List (Str × Value)} (h : List.lookup b l = none) : (fun y => if y = a then A else List.lookup y l) = fun y => if y = a then A else if y = b then none else List.lookup y l := by
  funext y
  by_cases h1 : y = a
  · simp only [h1, if_true]
  · by_cases h2 : y = b
    · subst h2; simp only [h1, if_true, if_false, h]
    · simp only [h1, h2, if_false]
theorem tab_lit : (PySem.Str.ofString "\t").cps.toList = [9] := by decide +kernel
theorem tab_bl : ∀ c ∈ (PySem.Str.ofString "\t").cps.toList, isBl c = true := by rw [tab_lit]; decide
theorem tab_len : (PySem.Str.ofString "\t").length ≤ 2 := by decide +kernel
theorem tab_ne : (PySem.Str.ofString "\t").cps.toList ≠ [] := by rw [tab_lit]; decide
theorem ne_empty {G : Str} (h : (G == PySem.Str.ofString "") = false) : G.cps.toList ≠ [] := fun z => by
  have e : G = PySem.Str.ofString "" := by
    obtain ⟨c⟩ := G
    have z' : c.toList = [] := z
    have : c = #[] := by rw [← Array.toList_eq_nil_iff]; exact z'
    rw [this]; decide +kernel
  rw [e] at h
  simp at h
theorem bl_lit : (PySem.Str.ofString " \t\u000d\n\u000b").length = 5 := by decide +kernel
theorem bl_item {q : Int} (h0 : 0 ≤ q) (h5 : q < 5) : ∀ c ∈ (Txt.item (PySem.Str.ofString " \t\u000d\n\u000b") q).cps.toList, isBl c = true := by
  have : q = 0 ∨ q = 1 ∨ q = 2 ∨ q = 3 ∨ q = 4 := by omega
  rcases this with rfl | rfl | rfl | rfl | rfl <;> decide +kernel
theorem one_item {q : Int} (h0 : 0 ≤ q) (h5 : q < 5) : (Txt.item (PySem.Str.ofString " \t\u000d\n\u000b") q).length = 1 := by
  have : q = 0 ∨ q = 1 ∨ q = 2 ∨ q = 3 ∨ q = 4 := by omega
  rcases this with rfl | rfl | rfl | rfl | rfl <;> decide +kernel
theorem bl_add {G H : Str} (h1 : ∀ c ∈ G.cps.toList, isBl c = true) (h2 : ∀ c ∈ H.cps.toList, isBl c = true) : ∀ c ∈ (G ++ H).cps.toList, isBl c = true := by
  intro c hc
  rw [Str.cps_append, Array.toList_append] at hc
  exact (List.mem_append.mp hc).elim (h1 c) (h2 c)
theorem bl_ch {q : Int} (h0 : 0 ≤ q) (h5 : q < 5) : isBl (ch (PySem.Str.ofString " \t\u000d\n\u000b") q.toNat) = true := by
  have : ∀ k : Nat, k < 5 → isBl (ch (PySem.Str.ofString " \t\u000d\n\u000b") k) = true := by decide +kernel
  exact this _ (by omega)
theorem word_NzGap_1 : True := by
  k_with "my last subscriptTail" => (k_here; (with_reducible show wpAny _ _ (subscriptTail _ _ (Value.str _ _) (Value.int _ _)) _ _ _); refine item_chI (by assumption) (by (rw [bl_lit]); omega) (by (rw [bl_lit]); decide) ?_)
  trivial
theorem word_NzGap_2 : True := by
  k_with "my call ref" => (k_here; (with_reducible show wpAny _ _ (call (Value.ref 276) _ _) _ _ _); k_dflt (refine con_go (by k_asm) (by exact fun _ hp => hp) (by k_asm) (by k_asm) (by k_asm) (by k_asm) (by exact rfl) (take_con (by k_all) (by assumption) (by assumption) (by assumption) (by assumption) (by first | omega | decide) (by first | omega | decide)) (by ((try simp only [depth_deeper, ktrTop]); omega)) (by ((try simp only [units_deeper, ktrTop]); omega)) (by exact fun _ hc => hc.elim) ?_; intro r9 news9 h9 tk9 F9 N9 hP9; refine Exists.elim hP9 ?_; clear hP9; intro q9 hP9; refine Exists.elim hP9 ?_; clear hP9; intro pa9 hP9; refine Exists.elim hP9 ?_; clear hP9; intro pb9 hP9; refine Exists.elim hP9 ?_; clear hP9; intro tq9 hP9; refine Exists.elim hP9 ?_; clear hP9; intro ta9 hP9; refine Exists.elim hP9 ?_; clear hP9; intro tb9 hP9; refine And.elim ?_ hP9; clear hP9; intro hr9 hP9; refine And.elim ?_ hP9; clear hP9; intro hn9 hP9; subst hr9; subst hn9; refine And.elim ?_ hP9; clear hP9; intro hq9 hP9; refine And.elim ?_ hq9; clear hq9; intro hq9 hqq9; unfold PoolOk at hP9; refine And.elim ?_ hP9; clear hP9; intro hpa9 hP9; refine And.elim ?_ hP9; clear hP9; intro hpb9 hP9; refine And.elim ?_ hP9; clear hP9; intro hpc9 hP9; (try k_sweep); (try dsimp only); (try k_fold)))
  trivial
theorem word_NzGap_3 : True := by
  k_with "my pyIter ref" => refine stop_here ?_
  trivial
theorem gap_con {w : World} {mean : ExcName → Option Value} {mg mb : Str → Option Value} {lp : Addr} {pa pb : Int} {ta tb : Tok} {nd : Bool} {n : Nat} {zs : List (Addr × Obj)} (hz : ∀ q ∈ zs, q.1 ≠ lp) (ha0 : 0 ≤ pa) (ha1 : pa < 10 ^ 90) (hb0 : 0 ≤ pb) (hb1 : pb < 2147483647) :
    Con w mean mg mb 304 [.ref lp, .bool nd] ((lp, poolO pa pb ta tb n) :: zs) 4 32
      (fun r news' => ∃ (G : Str) (tG : Tok) (a' b' : Int) (ta' tb' : Tok), r = .str G tG ∧ news' = (lp, poolO a' b' ta' tb' n) :: zs ∧ PoolOk a' b' ∧ (∀ c ∈ G.cps.toList, isBl c = true) ∧ G.length ≤ 2 ∧ (nd = true → G.cps.toList ≠ [])) NoExc := by
  intro dp un gd cn cs a ccd cl outer A₀ base h₀ L m s Q E B F X N TT hk hdp hun ret exc
  refine wpAny_call ?_
  k_dflt ktr_enter
  rename Fr _ _ _ _ => F1
  replace F1 : Fr _ _ _ (fun y => List.lookup y [(PySem.Str.ofString "needed", .bool nd), (PySem.Str.ofString "pool", .ref lp)]) := F1
  k_steps
  rename Fr _ _ _ _ => F2
  rename News _ _ _ _ => N2
  unfold Stop
  refine' range_inv ?hL rfl (by assumption) (by assumption) (by omega) F2 N2 (fun i m news => ∃ (G : Str) (tG : Tok) (a' b' : Int) (ta' tb' : Tok) (o : Option Value),
    m = (fun y => if y = PySem.Str.ofString "found" then some (Value.str G tG) else if y = PySem.Str.ofString "turn" then o else List.lookup y [(PySem.Str.ofString "needed", .bool nd), (PySem.Str.ofString "pool", .ref lp)]) ∧
    news = (lp, poolO a' b' ta' tb' n) :: zs ∧ PoolOk a' b' ∧ (∀ c ∈ G.cps.toList, isBl c = true) ∧ G.length = i) ?h0 ?tn ?dn
  case hL => exact rfl
  case h0 =>
    refine ⟨PySem.Str.ofString "", _, _, _, _, _, none, if2_init rfl, rfl, ⟨by assumption, by assumption, by assumption, by assumption⟩, ?_, by decide +kernel⟩
    rw [show (PySem.Str.ofString "").cps.toList = [] from by decide +kernel]; intro c hc; exact absurd hc List.not_mem_nil
  case tn =>
    clear F2 N2
    rintro i m₁ news₁ h tk t I it hi hoff ⟨G, tG, a', b', ta', tb', o, e0, e1, ⟨p1, p2, p3, p4⟩, hbl, hlen⟩ F1 N1 R9 IH
    subst e0 e1
    have hIl : @Ne Nat lp I := hoff _ (.head _)
    replace N1 : News _ _ _ ((lp, poolO a' b' ta' tb' n) :: (I, it) :: zs) := N1
    have hG : G.length ≤ 2 := by omega
    try dsimp only at F1
    k_steps
    rename News _ _ _ _ => N9
    refine IH _ _ _ ((lp, poolO _ _ _ _ n) :: zs) (by assumption) N9 (off_upd hoff) ⟨_, _, _, _, _, _, _, if2, rfl, ⟨by assumption, by assumption, by assumption, by assumption⟩, ?_, ?_⟩
    · exact bl_add hbl (bl_item (by assumption) (by assumption))
    · rw [Str.length_append, hlen, one_item (by assumption) (by assumption)]
  case dn =>
    clear F2 N2
    rintro m₁ news₁ h tk ⟨G, tG, a', b', ta', tb', o, e0, e1, ⟨p1, p2, p3, p4⟩, hbl, hlen⟩ F1 N1
    subst e0 e1
    have hG : G.length ≤ 2 := by omega
    k_steps
    · exact ret _ _ _ _ (by assumption) (by assumption) ⟨_, _, _, _, _, _, rfl, rfl, ⟨p1, p2, p3, p4⟩, tab_bl, tab_len, fun _ => tab_ne⟩
    · rename ((G == _) = false) => he
      exact ret _ _ _ _ (by assumption) (by assumption) ⟨_, _, _, _, _, _, rfl, rfl, ⟨p1, p2, p3, p4⟩, hbl, hG, fun _ => ne_empty he⟩
    · rename (nd = false) => he
      exact ret _ _ _ _ (by assumption) (by assumption) ⟨_, _, _, _, _, _, rfl, rfl, ⟨p1, p2, p3, p4⟩, hbl, hG, fun z => by rw [he] at z; cases z⟩
end Mine
end
/-! NzNeeds -/
section
open PySem PySem.W PySem.Spec PySem.Calls PyProof.Rows
namespace Mine
theorem word_NzNeeds_0 : True := by
  k_with_none
  w_top off
  trivial
set_option maxRecDepth 100000
set_option maxHeartbeats 8000000
set_option linter.all false
theorem fill_needs : (fun (_ : PySem.W.OpenLaw) (_ : Params → Frag) => True) PySem.Challenge.rw_nz0213_01 hd.heap_1 := by
  k_fill
  trivial

def isSgn (x : Str) : Bool := [PySem.Str.ofString "|", PySem.Str.ofString ";", PySem.Str.ofString "&", PySem.Str.ofString "(", PySem.Str.ofString ")", PySem.Str.ofString "<", PySem.Str.ofString ">", PySem.Str.ofString ">>"].any fun y => y == x
def isMore (x : Str) : Bool := [PySem.Str.ofString ">", PySem.Str.ofString ">>"].any fun y => y == x
def needsB (a b : Str) : Bool := if isSgn a = false ∧ isSgn b = false then true else (a == PySem.Str.ofString ">") && isMore b
theorem needs_sgn {a b : Str} (h : isSgn a = true ∨ isSgn b = true) : needsB a b = ((a == PySem.Str.ofString ">") && isMore b) := by
  unfold needsB
  rw [if_neg]
  rintro ⟨h1, h2⟩
  rcases h with h | h
  · rw [h] at h1; cases h1
  · rw [h] at h2; cases h2
theorem needs_yes {a b : Str} {h : Bool} (hs : isSgn a = true ∨ isSgn b = true) (hg : (a == PySem.Str.ofString ">") = true) : needsB a b = isMore b := by rw [needs_sgn hs, hg, Bool.true_and]
theorem needs_no {a b : Str} (hs : isSgn a = true ∨ isSgn b = true) (hg : (a == PySem.Str.ofString ">") = false) : needsB a b = (a == PySem.Str.ofString ">") := by rw [needs_sgn hs, hg, Bool.false_and]
theorem needs_word {a b : Str} (h1 : isSgn a = false) (h2 : isSgn b = false) : needsB a b = true := if_pos ⟨h1, h2⟩
theorem needs_con {w : World} {mean : ExcName → Option Value} {mg mb : Str → Option Value} {o1 o2 : Str} {to1 to2 : Tok} {zs : List (Addr × Obj)} :
    Con w mean mg mb 297 [.str o1 to1, .str o2 to2] zs 2 16
      (fun r news' => ∃ new, r = .bool (needsB o1 o2) ∧ news' = new ++ zs) NoExc := by
  intro dp un gd cn cs a ccd cl outer A₀ base h₀ L m s Q E B F X N TT hk hdp hun ret exc
  refine wpAny_call ?_
  k_dflt ktr_enter
  rename Fr _ _ _ _ => F1
  replace F1 : Fr _ _ _ (fun y => List.lookup y [(PySem.Str.ofString "other", .str o2 to2), (PySem.Str.ofString "one", .str o1 to1)]) := F1
  k_steps
  · exact ret _ _ _ _ (by assumption) (by assumption) ⟨_ :: _ :: [], congrArg Value.bool (needs_yes (h := true) (.inl (by assumption)) (by assumption)).symm, rfl⟩
  · exact ret _ _ _ _ (by assumption) (by assumption) ⟨_ :: [], congrArg Value.bool (needs_no (.inl (by assumption)) (by assumption)).symm, rfl⟩
  · exact ret _ _ _ _ (by assumption) (by assumption) ⟨_ :: _ :: [], congrArg Value.bool (needs_yes (h := true) (.inr (by assumption)) (by assumption)).symm, rfl⟩
  · exact ret _ _ _ _ (by assumption) (by assumption) ⟨_ :: [], congrArg Value.bool (needs_no (.inr (by assumption)) (by assumption)).symm, rfl⟩
  · exact ret _ _ _ _ (by assumption) (by assumption) ⟨_ :: [], congrArg Value.bool (needs_word (by assumption) (by assumption)).symm, rfl⟩
end Mine
end
/-! NzWide -/
section
open PySem PySem.W PyProof.Rows
namespace Mine
set_option maxRecDepth 100000
set_option maxHeartbeats 8000000
set_option linter.all false

def Blank (g : List Nat) : Prop := ∀ c ∈ g, isBl c = true
/-- a row of marks, with gaps -/
inductive Wd : List Str → List Nat → Prop
  | nil {g : List Nat} : Blank g → Wd [] g
  | one {g : List Nat} {m : Str} : Blank g → Wd [m] (g ++ m.cps.toList)
  | snoc {pre : List Str} {a m : Str} {w g : List Nat} : Wd (pre ++ [a]) w → Blank g → (needsB a m = true → g ≠ []) → Wd (pre ++ [a] ++ [m]) (w ++ g ++ m.cps.toList)

def GoodWord (m : Str) : Prop := isSgn m = false ∧ m.cps.toList ≠ [] ∧ ∀ c ∈ m.cps.toList, isWd c = true
def GoodMark (m : Str) : Prop := isSgn m = true ∨ GoodWord m
def tkOf (m : Str) : Tk := if isSgn m = true then .sg (m.cps.toList.headD 0) (decide (m.cps.toList.length = 2)) else .wd m

theorem bl_not_wd {c : Nat} (h : isBl c = true) : isWd c = false := by unfold isWd; rw [h]; rfl
theorem bl_not_62 {c : Nat} (h : isBl c = true) : c ≠ 62 := by rintro rfl; cases h
theorem wd_not_62 {c : Nat} (h : isWd c = true) : c ≠ 62 := by rintro rfl; cases h

theorem sgn_cases {m : Str} (h : isSgn m = true) : m = PySem.Str.ofString "|" ∨ m = PySem.Str.ofString ";" ∨ m = PySem.Str.ofString "&" ∨ m = PySem.Str.ofString "(" ∨ m = PySem.Str.ofString ")" ∨ m = PySem.Str.ofString "<" ∨ m = PySem.Str.ofString ">" ∨ m = PySem.Str.ofString ">>" := by
  simp only [isSgn, List.any_cons, List.any_nil, Bool.or_false, Bool.or_eq_true, beq_iff_eq] at h
  rcases h with h | h | h | h | h | h | h | h <;> simp [h.symm]

theorem l_bar : (PySem.Str.ofString "|").cps.toList = [124] := by decide +kernel
theorem l_semi : (PySem.Str.ofString ";").cps.toList = [59] := by decide +kernel
theorem l_amp : (PySem.Str.ofString "&").cps.toList = [38] := by decide +kernel
theorem l_open : (PySem.Str.ofString "(").cps.toList = [40] := by decide +kernel
theorem l_close : (PySem.Str.ofString ")").cps.toList = [41] := by decide +kernel
theorem l_lt : (PySem.Str.ofString "<").cps.toList = [60] := by decide +kernel
theorem l_gt : (PySem.Str.ofString ">").cps.toList = [62] := by decide +kernel
theorem l_gg : (PySem.Str.ofString ">>").cps.toList = [62, 62] := by decide +kernel

/-- what may follow a mark at once -/
def Bd (a : Str) (rest : List Nat) : Prop := (isSgn a = false → ∀ c r, rest = c :: r → isWd c = false) ∧ (a = PySem.Str.ofString ">" → rest.head? ≠ some 62)

theorem lex_blanks : ∀ (g rest : List Nat), Blank g → lex (g ++ rest) = lex rest
  | [], _, _ => rfl
  | c :: g, rest, h => by
    rw [List.cons_append, lex_bl (h c (.head _))]
    exact lex_blanks g rest fun x hx => h x (.tail _ hx)

theorem take_word : ∀ (l rest : List Nat), (∀ c ∈ l, isWd c = true) → (∀ c r, rest = c :: r → isWd c = false) → (l ++ rest).takeWhile isWd = l ∧ (l ++ rest).dropWhile isWd = rest
  | [], rest, _, h => by
    cases rest with
    | nil => exact ⟨rfl, rfl⟩
    | cons c r =>
      have hc := h c r rfl
      rw [List.nil_append, List.takeWhile_cons_of_neg (by rw [hc]; exact Bool.false_ne_true), List.dropWhile_cons_of_neg (by rw [hc]; exact Bool.false_ne_true)]
      exact ⟨rfl, rfl⟩
  | c :: l, rest, hl, h => by
    obtain ⟨h1, h2⟩ := take_word l rest (fun x hx => hl x (.tail _ hx)) h
    have hc := hl c (.head _)
    rw [List.cons_append, List.takeWhile_cons_of_pos hc, List.dropWhile_cons_of_pos hc, h1, h2]
    exact ⟨rfl, rfl⟩

theorem lex_one {c : Nat} {m : Str} {rest : List Nat} (hm : m.cps.toList = [c]) (hs : isSgn m = true) (hc : isSg c = true) (h : ¬ (c = 62 ∧ rest.head? = some 62)) : lex (m.cps.toList ++ rest) = tkOf m :: lex rest := by
  unfold tkOf
  rw [if_pos hs, hm]
  exact lex_sg hc h

theorem lex_mark {m : Str} {rest : List Nat} (hg : GoodMark m) (hb : Bd m rest) : lex (m.cps.toList ++ rest) = tkOf m :: lex rest := by
  rcases hg with hs | ⟨hs, hn, hw⟩
  · rcases sgn_cases hs with h | h | h | h | h | h | h | h
    · exact lex_one (by rw [h]; exact l_bar) hs (by decide) (fun z => absurd z.1 (by decide))
    · exact lex_one (by rw [h]; exact l_semi) hs (by decide) (fun z => absurd z.1 (by decide))
    · exact lex_one (by rw [h]; exact l_amp) hs (by decide) (fun z => absurd z.1 (by decide))
    · exact lex_one (by rw [h]; exact l_open) hs (by decide) (fun z => absurd z.1 (by decide))
    · exact lex_one (by rw [h]; exact l_close) hs (by decide) (fun z => absurd z.1 (by decide))
    · exact lex_one (by rw [h]; exact l_lt) hs (by decide) (fun z => absurd z.1 (by decide))
    · exact lex_one (by rw [h]; exact l_gt) hs (by decide) (fun z => hb.2 h z.2)
    · unfold tkOf
      rw [if_pos hs, h, l_gg]
      exact lex_two
  · obtain ⟨cs⟩ := m
    unfold tkOf
    rw [if_neg (by rw [hs]; exact Bool.false_ne_true)]
    have hn' : cs.toList ≠ [] := hn
    have hw' : ∀ c ∈ cs.toList, isWd c = true := hw
    show lex (cs.toList ++ rest) = .wd ⟨cs⟩ :: lex rest
    cases hl : cs.toList with
    | nil => exact absurd hl hn'
    | cons c l =>
      rw [hl] at hw'
      obtain ⟨h1, h2⟩ := take_word l rest (fun x hx => hw' x (.tail _ hx)) (hb.1 hs)
      rw [List.cons_append, lex_wd (hw' c (.head _)), h1, h2]
      have : cs = (c :: l).toArray := by rw [← hl]
      rw [this]

theorem head_blank {g r : List Nat} {c : Nat} {rest : List Nat} (hb : Blank g) (hn : g ≠ []) (h : g ++ rest = c :: r) : isBl c = true := by
  cases g with
  | nil => exact absurd rfl hn
  | cons x g =>
    rw [List.cons_append] at h
    injection h with h1 h2
    rw [← h1]; exact hb x (.head _)

theorem bd_gap {a m : Str} {g rest : List Nat} (hm : GoodMark m) (hb : Blank g) (hn : needsB a m = true → g ≠ []) : Bd a (g ++ (m.cps.toList ++ rest)) := by
  by_cases hg : g = []
  · subst hg
    have hf : needsB a m = false := by
      cases h : needsB a m with
      | false => rfl
      | true => exact absurd rfl (hn h)
    rw [List.nil_append]
    refine ⟨fun ha c r e => ?_, fun ha e => ?_⟩
    · rcases hm with hs | ⟨hs, _⟩
      · rcases sgn_cases hs with h | h | h | h | h | h | h | h <;> (rw [h] at e; first | rw [l_bar] at e | rw [l_semi] at e | rw [l_amp] at e | rw [l_open] at e | rw [l_close] at e | rw [l_lt] at e | rw [l_gt] at e | rw [l_gg] at e) <;> (injection e with e1 e2; rw [← e1]; decide)
      · rw [needs_word ha hs] at hf; cases hf
    · rcases hm with hs | ⟨hs, hne, hw⟩
      · have hmore : isMore m = false := by
          have := needs_yes (a := a) (b := m) (h := true) (.inr hs) (by rw [ha]; exact beq_self_eq_true _)
          rw [this] at hf; exact hf
        rcases sgn_cases hs with h | h | h | h | h | h | h | h
        · rw [h, l_bar] at e; simp at e
        · rw [h, l_semi] at e; simp at e
        · rw [h, l_amp] at e; simp at e
        · rw [h, l_open] at e; simp at e
        · rw [h, l_close] at e; simp at e
        · rw [h, l_lt] at e; simp at e
        · rw [h] at hmore; simp [isMore] at hmore
        · rw [h] at hmore; simp [isMore] at hmore
      · cases hl : m.cps.toList with
        | nil => exact hne hl
        | cons c l =>
          rw [hl] at e hw
          have : c = 62 := by simpa using e
          exact wd_not_62 (hw c (.head _)) this
  · refine ⟨fun _ c r e => bl_not_wd (head_blank hb hg e), fun _ e => ?_⟩
    cases g with
    | nil => exact hg rfl
    | cons x g =>
      have : x = 62 := by simpa using e
      exact bl_not_62 (hb x (.head _)) this

theorem wd_lex : ∀ {ms : List Str} {w : List Nat}, Wd ms w → (∀ m ∈ ms, GoodMark m) → ∀ rest, (∀ a, ms.getLast? = some a → Bd a rest) → lex (w ++ rest) = ms.map tkOf ++ lex rest := by
  intro ms w h
  induction h with
  | nil hb => intro _ rest _; exact lex_blanks _ _ hb
  | one hb =>
    intro hg rest hl
    rw [List.append_assoc, lex_blanks _ _ hb, lex_mark (hg _ (.head _)) (hl _ rfl)]
    rfl
  | @snoc pre a m w g hw hb hn ih =>
    intro hg rest hl
    have hm : GoodMark m := hg m (by simp)
    have h1 := ih (fun x hx => hg x (List.mem_append_left _ hx)) (g ++ (m.cps.toList ++ rest)) (fun b hb' => by
      have : b = a := by simpa using hb'.symm
      rw [this]; exact bd_gap hm hb hn)
    rw [List.append_assoc, List.append_assoc, h1, lex_blanks _ _ hb, lex_mark hm (hl m (by simp))]
    simp

/-- a text of the marks: every one reads the same -/
def Spr (ms : List Str) (T : Str) : Prop := ∃ w g, Wd ms w ∧ Blank g ∧ T.cps.toList = w ++ g
theorem spr_tks {ms : List Str} {T : Str} (h : Spr ms T) (hg : ∀ m ∈ ms, GoodMark m) : tks T 0 = ms.map tkOf := by
  obtain ⟨w, g, hw, hb, e⟩ := h
  unfold tks
  rw [List.drop_zero, e, wd_lex hw hg g (fun a _ => ⟨fun _ c r z => bl_not_wd (hb c (by rw [z]; exact .head _)), fun _ z => by
    cases g with
    | nil => cases z
    | cons x g =>
      have : x = 62 := by simpa using z
      exact bl_not_62 (hb x (.head _)) this⟩)]
  have := lex_blanks g [] hb
  rw [List.append_nil] at this
  rw [this, lex_nil, List.append_nil]

theorem wd_nil {ms : List Str} {w : List Nat} (h : Wd ms w) : ms = [] → Blank w := by
  cases h with
  | nil hb => exact fun _ => hb
  | one _ => intro z; cases z
  | snoc _ _ _ => intro z; simp at z
theorem wd_snoc {ms : List Str} {m : Str} {w g : List Nat} (h : Wd ms w) (hb : Blank g) (hn : ∀ a, ms.getLast? = some a → needsB a m = true → g ≠ []) : Wd (ms ++ [m]) (w ++ g ++ m.cps.toList) := by
  rcases List.eq_nil_or_concat ms with rfl | ⟨pre, a, rfl⟩
  · have h0 := wd_nil h rfl
    refine .one fun c hc => ?_
    exact (List.mem_append.mp hc).elim (h0 c) (hb c)
  · rw [List.concat_eq_append] at h hn ⊢
    exact .snoc h hb (hn a (by simp))
/-- the marks joined by one blank -/
theorem join_wd : ∀ (ms pre : List Str) (w : List Nat), Wd pre w → pre ≠ [] → Wd (pre ++ ms) (w ++ (ms.map fun m => 32 :: m.cps.toList).flatten)
  | [], pre, w, h, _ => by simpa using h
  | m :: ms, pre, w, h, hp => by
    have h1 := wd_snoc (m := m) h (g := [32]) (fun c hc => by rw [List.mem_singleton.mp hc]; rfl) (fun _ _ _ => by simp)
    have h2 := join_wd ms (pre ++ [m]) _ h1 (by simp)
    rw [List.append_assoc] at h2
    have e : w ++ [32] ++ m.cps.toList ++ (ms.map fun m => 32 :: m.cps.toList).flatten = w ++ ((m :: ms).map fun m => 32 :: m.cps.toList).flatten := by simp
    rw [e] at h2
    exact h2
theorem join_list : ∀ (x : Str) (ms : List Str), (Str.join (PySem.Str.ofString " ") (x :: ms)).cps.toList = x.cps.toList ++ (ms.map fun m => 32 :: m.cps.toList).flatten
  | x, [] => by
    show x.cps.toList = _
    simp
  | x, m :: ms => by
    have h := join_list m ms
    show ((x ++ PySem.Str.ofString " " ++ Str.join (PySem.Str.ofString " ") (m :: ms))).cps.toList = _
    rw [Str.cps_append, Str.cps_append, Array.toList_append, Array.toList_append, h, show (PySem.Str.ofString " ").cps.toList = [32] from by decide +kernel]
    simp
theorem txt_join (sep : Str) (l : List Str) : Txt.join sep l = Str.join sep l := StrLaws.glued_eq_join sep l
theorem join_spr {x : Str} {ms : List Str} : Spr (x :: ms) (Txt.join (PySem.Str.ofString " ") (x :: ms)) := by
  refine ⟨_, [], join_wd ms [x] (x.cps.toList) (.one (g := []) fun c hc => absurd hc List.not_mem_nil) (by simp), fun c hc => absurd hc List.not_mem_nil, ?_⟩
  rw [txt_join, join_list, List.append_nil]
theorem join_len : ∀ (x : Str) (ms : List Str), (∀ m ∈ x :: ms, m.length ≤ 3) → (Str.join (PySem.Str.ofString " ") (x :: ms)).length ≤ 4 * (ms.length + 1)
  | x, [], h => by
    have := h x (.head _)
    show x.length ≤ _
    simp only [List.length_nil]; omega
  | x, m :: ms, h => by
    have h1 := join_len m ms (fun y hy => h y (.tail _ hy))
    have h2 := h x (.head _)
    show (x ++ PySem.Str.ofString " " ++ Str.join (PySem.Str.ofString " ") (m :: ms)).length ≤ _
    rw [Str.length_append, Str.length_append, show (PySem.Str.ofString " ").length = 1 from by decide +kernel]
    simp only [List.length_cons]
    omega
end Mine
end
/-! NzEnum -/
section
open PySem PySem.W PySem.Spec PySem.Calls PyProof.Rows
namespace Mine
set_option maxRecDepth 100000
set_option maxHeartbeats 8000000
set_option linter.all false

def ins2 (q1 q2 : Addr × Obj) : List (Addr × Obj) → List (Addr × Obj)
  | [] => [q1, q2]
  | p :: r => p :: q1 :: q2 :: r
theorem ins2_perm {q1 q2 : Addr × Obj} : ∀ {l : List (Addr × Obj)} (p : Addr × Obj), p ∈ ins2 q1 q2 l ↔ p ∈ q1 :: q2 :: l
  | [], p => Iff.rfl
  | a :: r, p => by
    simp only [ins2, List.mem_cons]
    constructor
    · rintro (h | h | h | h) <;> simp [h]
    · rintro (h | h | h | h) <;> simp [h]

section
variable {prog : Program} {w : World} {A : Around} {E : Value → Shared → Prop} {s : Shared} {env : Env} {h₀ : Heap} {body : List Stmt} {Q : Flow → Shared → Prop} {target : PySem.Expr}

theorem enum_rest {L : Addr} (hL : env.locals = L) (J : List Value → (Str → Option Value) → List (Addr × Obj) → Prop) {I lm : Addr} {lo : Obj} {vs : List Value}
    (turn : ∀ pre v suf m₁ news₁ h tk t (T : Addr) oe oi, vs = pre ++ v :: suf → (∀ p ∈ news₁, p.1 ≠ I + 1 ∧ p.1 ≠ I) → (lm, lo) ∈ news₁ → J pre m₁ news₁ → IsTup h T #[.int (pre.length : Nat) t, v] → Fr h₀ L h m₁ → News h₀ L h (ins2 (I + 1, oe) (I, oi) news₁) →
      ∀ R : Flow → Shared → Prop, (∀ h' tk' m' news', Fr h₀ L h' m' → News h₀ L h' (ins2 (I + 1, oe) (I, oi) news') → (∀ p ∈ news', p.1 ≠ I + 1 ∧ p.1 ≠ I) → (lm, lo) ∈ news' → J (pre ++ [v]) m' news' → R .next { s with heap := h', toks := tk' }) →
      wpAny (model prog w) A (assign target env (.ref T)) (fun _ s₂ => wpAny (model prog w) A (execs body env) R E s₂) E { s with heap := h, toks := tk })
    (done : ∀ m₁ news₁ h tk, J vs m₁ news₁ → Fr h₀ L h m₁ → News h₀ L h news₁ → Q .next { s with heap := h, toks := tk }) :
    ∀ suf pre m news, vs = pre ++ suf → (∀ p ∈ news, p.1 ≠ I + 1 ∧ p.1 ≠ I) → (lm, lo) ∈ news → J pre m news →
      ItemsRest prog w A E h₀ env target body Q s [(I + 1, "enumerate"), (I, "list_iterator")] [(lm, lo)] (enumItems pre.length suf) m news := by
  subst hL
  intro suf
  induction suf with
  | nil =>
    intro pre m news hv _ _ hJ
    rw [List.append_nil] at hv
    subst hv
    exact ItemsRest.zero fun h tk F N => done m news h tk hJ F N
  | cons v suf ih =>
    intro pre m news hv hoff hlm hJ
    refine ItemsRest.pair fun T t h tk hT F => ?_
    refine AllObj.cons fun oe he => AllObj.cons fun oi hi => AllObj.nil fun N => ?_
    refine turn pre v suf m news h tk t T oe oi hv hoff hlm hJ hT F (fun p hp => N p ((ins2_perm p).mp hp)) _ fun h' tk' m' news' F' N' hoff' hlm' hJ' => ?_
    refine ⟨h', tk', m', news', rfl, F', fun p hp => N' p ((ins2_perm p).mpr hp), fun p hp q hq => ?_, ⟨⟨hlm', trivial⟩, ?_⟩⟩
    · have hq' : q = (I + 1, oe) ∨ q = (I, oi) := by simpa using hq
      rcases hq' with rfl | rfl
      · exact (hoff' p hp).1
      · exact (hoff' p hp).2
    · have := ih (pre ++ [v]) m' news' (by rw [hv, List.append_assoc]; rfl) hoff' hlm' hJ'
      rw [List.length_append] at this
      exact this

theorem enum_inv {L : Addr} (hL : env.locals = L) {lm : Addr} {vs : List Value} {n : Nat} {m₀ : Str → Option Value} {news : List (Addr × Obj)} {elts : List PySem.Expr} {k : Nat} {pos : Pos}
    (hh : A.handled = none) (F : Fr h₀ L s.heap m₀) (N : News h₀ L s.heap news) (hm : (lm, listOf vs.toArray n) ∈ news)
    (J : List Value → (Str → Option Value) → List (Addr × Obj) → Prop) (hj : J [] m₀ news)
    (turn : ∀ pre v suf m₁ news₁ h tk t (T I : Addr) oe oi, vs = pre ++ v :: suf → (∀ p ∈ news₁, p.1 ≠ I + 1 ∧ p.1 ≠ I) → (lm, listOf vs.toArray n) ∈ news₁ → J pre m₁ news₁ → IsTup h T #[.int (pre.length : Nat) t, v] → Fr h₀ L h m₁ → News h₀ L h (ins2 (I + 1, oe) (I, oi) news₁) →
      ∀ R : Flow → Shared → Prop, (∀ h' tk' m' news', Fr h₀ L h' m' → News h₀ L h' (ins2 (I + 1, oe) (I, oi) news') → (∀ p ∈ news', p.1 ≠ I + 1 ∧ p.1 ≠ I) → (lm, listOf vs.toArray n) ∈ news' → J (pre ++ [v]) m' news' → R .next { s with heap := h', toks := tk' }) →
      wpAny (model prog w) A (assign (.Tuple elts k pos) env (.ref T)) (fun _ s₂ => wpAny (model prog w) A (execs body env) R E s₂) E { s with heap := h, toks := tk })
    (done : ∀ m₁ news₁ h tk, J vs m₁ news₁ → Fr h₀ L h m₁ → News h₀ L h news₁ → Q .next { s with heap := h, toks := tk }) :
    wpAny (model prog w) A (call (.type "enumerate") [.ref lm]) (fun xv s₁ => wpAny (model prog w) A (pyIter xv) (fun it s₂ => TurnsAt prog w A h₀ env (.Tuple elts k pos) body Q E it s₂) E s₁) E s := by
  subst hL
  refine ktu_enum hh F N hm rfl rfl rfl fun I hI => ?_
  exact enum_rest rfl J (fun pre v suf m₁ news₁ h tk t T oe oi => turn pre v suf m₁ news₁ h tk t T I oe oi) done vs [] m₀ news rfl
    (fun p hp => ⟨Nat.ne_of_lt (Nat.lt_succ_of_lt (hI p hp)), Nat.ne_of_lt (hI p hp)⟩) hm hj
end
end Mine
end
/-! NzPlain -/
section
open PySem PySem.W PySem.Spec PySem.Calls PyProof.Rows
namespace Mine
set_option maxRecDepth 100000
set_option maxHeartbeats 8000000
set_option linter.all false

/-! a tree is no deeper than its tokens are many -/
theorem dep_wrap : ∀ (rs : List Red) (t : Tree), dep (wrap rs t) = dep t + rs.length
  | [], t => rfl
  | r :: rs, t => by rw [wrap, dep, dep_wrap rs t, List.length_cons]; omega
theorem pReds_n : ∀ {ts : List Tk} {acc acc' : List Red} {ts' : List Tk}, pReds acc ts = some (acc', ts') → acc'.length + ts'.length ≤ acc.length + ts.length
  | [], acc, _, _, h => by simp [pReds] at h; rw [← h.2, ← h.1]; exact Nat.le_refl _
  | .wd _ :: _, _, _, _, h => by simp [pReds] at h; rw [← h.2, ← h.1]; exact Nat.le_refl _
  | [.sg c tw], _, _, _, h => by
    simp [pReds] at h; rw [← h.2.2, ← h.2.1]; exact Nat.le_refl _
  | .sg c tw :: .sg _ _ :: _, _, _, _, h => by
    simp [pReds] at h; rw [← h.2.2, ← h.2.1]; exact Nat.le_refl _
  | .sg c tw :: .wd s :: ts, _, _, _, h => by
    simp only [pReds] at h
    split at h
    · have := pReds_n h
      simp only [List.length_cons] at this ⊢; omega
    · injection h with h; injection h with h1 h2; rw [← h2, ← h1]; exact Nat.le_refl _
theorem pArgs_n : ∀ {n : Nat} {args args' : List Str} {acc acc' : List Red} {ts ts' : List Tk}, pArgs n args acc ts = some (args', acc', ts') → acc'.length + ts'.length ≤ acc.length + ts.length
  | 0, _, _, _, _, _, _, h => by simp [pArgs] at h
  | n + 1, args, _, acc, _, ts, _, h => by
    unfold pArgs at h
    split at h
    · injection h with h; injection h with h1 h2; injection h2 with h2 h3; rw [← h3, ← h2]; exact Nat.le_refl _
    · split at h
      · cases h
      · split at h
        · cases h
        · split at h
          · cases h
          · rename_i acc2 ts2 hr
            have h1 := pReds_n hr
            have h2 := pArgs_n h
            have h3 := tail_le (ts := ts)
            omega
def LineDep (line : List Tk → PRes) : Prop := ∀ ts t ts', line ts = some (t, ts') → dep t + ts'.length ≤ ts.length + 1
theorem pBlock_dep {line : List Tk → PRes} (hl : LineDep line) : LineDep (pBlock line) := by
  intro ts t ts' h
  unfold pBlock at h
  split at h
  · cases h
  · rename_i t1 ts1 h1
    split at h
    · split at h
      · cases h
      · rename_i acc ts2 h2
        injection h with h; injection h with h3 h4
        have a1 := hl _ _ _ h1
        have a2 := pReds_n h2
        have a3 := tail_le (ts := ts)
        have a4 := tail_le (ts := ts1)
        rw [← h4, ← h3, dep_wrap]
        simp only [List.length_nil] at a2
        omega
    · cases h
theorem pCommand_dep {line : List Tk → PRes} (hl : LineDep line) : LineDep (pCommand line) := by
  intro ts t ts' h
  unfold pCommand at h
  split at h
  · exact pBlock_dep hl _ _ _ h
  · split at h
    · cases h
    · rename_i acc ts1 h1
      split at h
      · cases h
      · rename_i args acc' ts2 h2
        injection h with h; injection h with h3 h4
        have a1 := pReds_n h1
        have a2 := pArgs_n h2
        rw [← h4, ← h3, dep_wrap, dep]
        simp only [List.length_nil] at a1
        omega
theorem pPipe_dep {line : List Tk → PRes} (hl : LineDep line) (hle : LineLe line) : ∀ n, LineDep (pPipe line n)
  | 0 => by intro ts t ts' h; simp [pPipe] at h
  | n + 1 => by
    intro ts t ts' h
    unfold pPipe at h
    split at h
    · cases h
    · rename_i t1 ts1 h1
      have a1 := pCommand_dep hl _ _ _ h1
      have b1 := pCommand_le hle _ _ _ h1
      split at h
      · split at h
        · cases h
        · rename_i hi _ t2 ts2 h2
          injection h with h; injection h with h3 h4
          have a2 := pPipe_dep hl hle n _ _ _ h2
          have b2 := pPipe_le hle n _ _ _ h2
          have a4 := tail_lt hi
          rw [← h4, ← h3, dep]; omega
      · injection h with h; injection h with h3 h4
        rw [← h4, ← h3]; exact a1
theorem pBack_dep : ∀ {ts : List Tk} {t : Tree}, dep (pBack t ts).1 + (pBack t ts).2.length ≤ dep t + ts.length
  | [], _ => Nat.le_refl _
  | .wd _ :: _, _ => Nat.le_refl _
  | .sg c tw :: ts, t => by
    unfold pBack
    split
    · have := pBack_dep (ts := ts) (t := .back t)
      simp only [List.length_cons, dep] at this ⊢; omega
    · exact Nat.le_refl _
theorem pLine_dep : ∀ n, LineDep (pLine n)
  | 0 => by intro ts t ts' h; simp [pLine] at h
  | n + 1 => by
    intro ts t ts' h
    unfold pLine at h
    split at h
    · cases h
    · rename_i t1 ts1 h1
      have a1 := pPipe_dep (pLine_dep n) (pLine_le n) _ _ _ _ h1
      have b1 := pPipe_le (pLine_le n) _ _ _ _ h1
      have a2 := pBack_dep (ts := ts1) (t := t1)
      have b2 := pBack_le (ts := ts1) (t := t1)
      split at h
      · split at h
        · cases h
        · rename_i hi _ t2 ts3 h2
          injection h with h; injection h with h3 h4
          have a3 := pLine_dep n _ _ _ h2
          have b3 := pLine_le n _ _ _ h2
          have a4 := tail_lt hi
          rw [← h4, ← h3, dep]; omega
      · injection h with h
        have e1 : ts' = (pBack t1 ts1).2 := by rw [h]
        have e2 : t = (pBack t1 ts1).1 := by rw [h]
        rw [e1, e2]; omega
theorem rdDep_le (ts : List Tk) : rdDep ts ≤ ts.length + 1 := by
  unfold rdDep pAll
  split
  · rename_i t h
    split at h
    · rename_i h1
      cases h
      have := pLine_dep _ _ _ _ h1
      simp only [List.length_nil] at this; omega
    · cases h
  · omega

/-! the words of a tree are words of its tokens -/
def TOk : Tree → Prop
  | .run args => ∀ a ∈ args, PyData.strOk a = true
  | .redir c r => TOk c ∧ PyData.strOk r.1 = true
  | .pair sg l r => PyData.strOk sg = true ∧ TOk l ∧ TOk r
  | .back c => TOk c
def WOk (ts : List Tk) : Prop := ∀ s, Tk.wd s ∈ ts → PyData.strOk s = true
def ROk (rs : List Red) : Prop := ∀ r ∈ rs, PyData.strOk r.1 = true
theorem wok_tail {ts : List Tk} (h : WOk ts) : WOk ts.tail := fun s hs => h s (List.mem_of_mem_tail hs)
theorem wok_word : ∀ {ts : List Tk}, WOk ts → isWord ts = true → PyData.strOk (wordOf ts) = true
  | .wd s :: _, h, _ => h s (.head _)
theorem tok_wrap : ∀ (rs : List Red) (t : Tree), ROk rs → TOk t → TOk (wrap rs t)
  | [], _, _, h => h
  | r :: rs, t, hr, h => ⟨tok_wrap rs t (fun x hx => hr x (.tail _ hx)) h, hr r (.head _)⟩
theorem pReds_ok : ∀ {ts : List Tk} {acc acc' : List Red} {ts' : List Tk}, pReds acc ts = some (acc', ts') → WOk ts → ROk acc → ROk acc' ∧ WOk ts'
  | [], acc, _, _, h, hw, hr => by
    simp [pReds] at h
    obtain ⟨h1, h2⟩ := h
    subst h1 h2
    exact ⟨hr, hw⟩
  | .wd _ :: _, _, _, _, h, hw, hr => by
    simp [pReds] at h
    obtain ⟨h1, h2⟩ := h
    subst h1 h2
    exact ⟨hr, hw⟩
  | [.sg c tw], _, _, _, h, hw, hr => by
    simp [pReds] at h
    obtain ⟨_, h1, h2⟩ := h
    subst h1 h2
    exact ⟨hr, hw⟩
  | .sg c tw :: .sg _ _ :: _, _, _, _, h, hw, hr => by
    simp [pReds] at h
    obtain ⟨_, h1, h2⟩ := h
    subst h1 h2
    exact ⟨hr, hw⟩
  | .sg c tw :: .wd s :: ts, acc, _, _, h, hw, hr => by
    simp only [pReds] at h
    split at h
    · refine pReds_ok h (fun x hx => hw x (.tail _ (.tail _ hx))) fun r hm => ?_
      rcases List.mem_cons.mp hm with rfl | hm
      · exact hw s (.tail _ (.head _))
      · exact hr r hm
    · injection h with h; injection h with h1 h2; rw [← h2, ← h1]; exact ⟨hr, hw⟩
theorem pArgs_ok : ∀ {n : Nat} {args args' : List Str} {acc acc' : List Red} {ts ts' : List Tk}, pArgs n args acc ts = some (args', acc', ts') → WOk ts → ROk acc → (∀ a ∈ args, PyData.strOk a = true) → (∀ a ∈ args', PyData.strOk a = true) ∧ ROk acc' ∧ WOk ts'
  | 0, _, _, _, _, _, _, h, _, _, _ => by simp [pArgs] at h
  | n + 1, args, _, acc, _, ts, _, h, hw, hr, ha => by
    unfold pArgs at h
    split at h
    · injection h with h; injection h with h1 h2; injection h2 with h2 h3; rw [← h3, ← h2, ← h1]; exact ⟨ha, hr, hw⟩
    · split at h
      · cases h
      · split at h
        · cases h
        · split at h
          · cases h
          · rename_i hwd _ _ acc2 ts2 hr2
            have h1 := pReds_ok hr2 (wok_tail hw) hr
            have hwd' : isWord ts = true := by simpa using hwd
            refine pArgs_ok h h1.2 h1.1 fun a hm => ?_
            rcases List.mem_append.mp hm with hm | hm
            · exact ha a hm
            · rw [List.mem_singleton.mp hm]; exact wok_word hw hwd'
def LineOk (line : List Tk → PRes) : Prop := ∀ ts t ts', line ts = some (t, ts') → WOk ts → TOk t ∧ WOk ts'
theorem rok_nil : ROk [] := fun _ h => absurd h List.not_mem_nil
theorem pBlock_ok {line : List Tk → PRes} (hl : LineOk line) : LineOk (pBlock line) := by
  intro ts t ts' h hw
  unfold pBlock at h
  split at h
  · cases h
  · rename_i t1 ts1 h1
    split at h
    · split at h
      · cases h
      · rename_i acc ts2 h2
        injection h with h; injection h with h3 h4
        have a1 := hl _ _ _ h1 (wok_tail hw)
        have a2 := pReds_ok h2 (wok_tail a1.2) rok_nil
        rw [← h4, ← h3]
        exact ⟨tok_wrap _ _ a2.1 a1.1, a2.2⟩
    · cases h
theorem pCommand_ok {line : List Tk → PRes} (hl : LineOk line) : LineOk (pCommand line) := by
  intro ts t ts' h hw
  unfold pCommand at h
  split at h
  · exact pBlock_ok hl _ _ _ h hw
  · split at h
    · cases h
    · rename_i acc ts1 h1
      split at h
      · cases h
      · rename_i args acc' ts2 h2
        injection h with h; injection h with h3 h4
        have a1 := pReds_ok h1 hw rok_nil
        have a2 := pArgs_ok h2 a1.2 a1.1 (fun _ hm => absurd hm List.not_mem_nil)
        rw [← h4, ← h3]
        exact ⟨tok_wrap _ _ a2.2.1 a2.1, a2.2.2⟩
theorem pPipe_ok {line : List Tk → PRes} (hl : LineOk line) : ∀ n, LineOk (pPipe line n)
  | 0 => by intro ts t ts' h; simp [pPipe] at h
  | n + 1 => by
    intro ts t ts' h hw
    unfold pPipe at h
    split at h
    · cases h
    · rename_i t1 ts1 h1
      have a1 := pCommand_ok hl _ _ _ h1 hw
      split at h
      · split at h
        · cases h
        · rename_i hi _ t2 ts2 h2
          injection h with h; injection h with h3 h4
          have a2 := pPipe_ok hl n _ _ _ h2 (wok_tail a1.2)
          rw [← h4, ← h3]; exact ⟨⟨by decide +kernel, a1.1, a2.1⟩, a2.2⟩
      · injection h with h; injection h with h3 h4
        rw [← h4, ← h3]; exact a1
theorem pBack_ok : ∀ {ts : List Tk} {t : Tree}, TOk t → WOk ts → TOk (pBack t ts).1 ∧ WOk (pBack t ts).2
  | [], _, h, hw => ⟨h, hw⟩
  | .wd _ :: _, _, h, hw => ⟨h, hw⟩
  | .sg c tw :: ts, t, h, hw => by
    unfold pBack
    split
    · exact pBack_ok (ts := ts) (t := .back t) h (wok_tail hw)
    · exact ⟨h, hw⟩
theorem pLine_ok : ∀ n, LineOk (pLine n)
  | 0 => by intro ts t ts' h; simp [pLine] at h
  | n + 1 => by
    intro ts t ts' h hw
    unfold pLine at h
    split at h
    · cases h
    · rename_i t1 ts1 h1
      have a1 := pPipe_ok (pLine_ok n) _ _ _ _ h1 hw
      have a2 := pBack_ok a1.1 a1.2
      split at h
      · split at h
        · cases h
        · rename_i hi _ t2 ts3 h2
          injection h with h; injection h with h3 h4
          have a3 := pLine_ok n _ _ _ h2 (wok_tail a2.2)
          rw [← h4, ← h3]; exact ⟨⟨by decide +kernel, a2.1, a3.1⟩, a3.2⟩
      · injection h with h
        have e1 : ts' = (pBack t1 ts1).2 := by rw [h]
        have e2 : t = (pBack t1 ts1).1 := by rw [h]
        rw [e1, e2]; exact a2
theorem kqd_mono : ∀ (n : Nat) (d : Dat), kqdOk n d = true → kqdOk (n + 1) d = true
  | 0, d, h => by cases d <;> simp_all [kqdOk]
  | n + 1, d, h => by
    cases d with
    | tuple ds => simp only [kqdOk, List.all_eq_true] at h ⊢; exact fun x hx => kqd_mono n x (h x hx)
    | list ds => simp only [kqdOk, List.all_eq_true] at h ⊢; exact fun x hx => kqd_mono n x (h x hx)
    | _ => simp_all [kqdOk]
theorem kqd_le {d : Dat} : ∀ {n m : Nat}, n ≤ m → kqdOk n d = true → kqdOk m d = true := by
  intro n m h
  induction h with
  | refl => exact id
  | step _ ih => exact fun x => kqd_mono _ _ (ih x)
theorem str_ok {n : Nat} {x : Str} (h : PyData.strOk x = true) : kqdOk n (.str x) = true := by cases n <;> simpa [kqdOk] using h
theorem int_ok {n : Nat} {x : Int} : kqdOk n (.int x) = true := by cases n <;> rfl
theorem lit_ok1 (n : Nat) : kqdOk n (.str (PySem.Str.ofString "run")) = true := str_ok (by decide +kernel)
theorem lit_ok2 (n : Nat) : kqdOk n (.str (PySem.Str.ofString "lead")) = true := str_ok (by decide +kernel)
theorem lit_ok3 (n : Nat) : kqdOk n (.str (PySem.Str.ofString "back")) = true := str_ok (by decide +kernel)
theorem lit_ok4 (n : Nat) : kqdOk n (.str (PySem.Str.ofString "refused")) = true := str_ok (by decide +kernel)
theorem tup_ok {n : Nat} {ds : List Dat} (h : ∀ d ∈ ds, kqdOk n d = true) : kqdOk (n + 1) (.tuple ds) = true := by
  rw [kqdOk, List.all_eq_true]; exact h
theorem lst_ok {n : Nat} {ds : List Dat} (h : ∀ d ∈ ds, kqdOk n d = true) : kqdOk (n + 1) (.list ds) = true := by
  rw [kqdOk, List.all_eq_true]; exact h
theorem shp_ok : ∀ (t : Tree), TOk t → kqdOk (dep t + 1) (shp t) = true
  | .run args, h => tup_ok (List.forall_mem_cons.mpr ⟨lit_ok1 _, List.forall_mem_cons.mpr ⟨lst_ok fun d hd => by
      obtain ⟨a, ha, rfl⟩ := List.mem_map.mp hd
      exact str_ok (h a ha), List.forall_mem_nil _⟩⟩)
  | .redir c r, h => tup_ok (List.forall_mem_cons.mpr ⟨lit_ok2 _, List.forall_mem_cons.mpr ⟨shp_ok c h.1, List.forall_mem_cons.mpr ⟨str_ok h.2, List.forall_mem_cons.mpr ⟨int_ok, List.forall_mem_cons.mpr ⟨int_ok, List.forall_mem_nil _⟩⟩⟩⟩⟩)
  | .back c, h => tup_ok (List.forall_mem_cons.mpr ⟨lit_ok3 _, List.forall_mem_cons.mpr ⟨shp_ok c h, List.forall_mem_nil _⟩⟩)
  | .pair sg l r, h => tup_ok (List.forall_mem_cons.mpr ⟨str_ok h.1, List.forall_mem_cons.mpr ⟨kqd_le (Nat.succ_le_succ (Nat.le_max_left _ _)) (shp_ok l h.2.1), List.forall_mem_cons.mpr ⟨kqd_le (Nat.succ_le_succ (Nat.le_max_right _ _)) (shp_ok r h.2.2), List.forall_mem_nil _⟩⟩⟩)
theorem rdOf_ok {ts : List Tk} (hw : WOk ts) : kqdOk (ts.length + 2) (rdOf ts) = true := by
  have hd := rdDep_le ts
  unfold rdDep at hd
  unfold rdOf
  cases hp : pAll ts with
  | none => exact lit_ok4 _
  | some t =>
    rw [hp] at hd
    refine kqd_le ?_ (shp_ok t ?_)
    · exact Nat.succ_le_succ hd
    · unfold pAll at hp
      split at hp
      · rename_i h1
        cases hp
        exact (pLine_ok _ _ _ _ h1 hw).1
      · cases hp

/-- a mark of the law -/
def MarkOk (m : Str) : Prop := GoodMark m ∧ m.length ≤ 3 ∧ PyData.strOk m = true
theorem wok_marks {ms : List Str} (h : ∀ m ∈ ms, MarkOk m) : WOk (ms.map tkOf) := by
  intro s hs
  obtain ⟨m, hm, e⟩ := List.mem_map.mp hs
  unfold tkOf at e
  split at e
  · cases e
  · injection e with e; rw [← e]; exact (h m hm).2.2

section
variable {prog : Program} {w : World} {A : Around} {E : Value → Shared → Prop} {s : Shared} {h₀ : Heap} {L : Addr} {news n₁ n₂ : List (Addr × Obj)} {a b : Value} {d : Dat} {Q : Value → Shared → Prop}
/-- two values of the same shape are equal -/
theorem eq_dat {n : Nat} (N : News h₀ L s.heap news) (Da : DatIn n₁ a d) (sa : ∀ p ∈ n₁, p ∈ news) (Db : DatIn n₂ b d) (sb : ∀ p ∈ n₂, p ∈ news)
    (hk : kqdOk n d = true) (hn : n ≤ 64) (hu : A.units + 64 < cLine) (h : Q (.bool true) s) : wpAny (model prog w) A (compareOp .Eq a b) Q E s := by
  obtain ⟨as, ra⟩ := kqd_in N n (Da.mono sa) hk
  obtain ⟨bs, rb⟩ := kqd_in N n (Db.mono sb) hk
  have l := kqd_lay n d hk
  have e : PyData.eqv (kqdP d) (kqdP d) = true := (kqd_eqv n d d n hk hk).mpr rfl
  have sh : SeqAt.shaped (kqdP d) = true := by
    unfold SeqAt.shaped; rw [l.1, Bool.true_and]; exact decide_eq_true (Nat.le_trans l.2 hn)
  exact eq_dataH ra rb sh sh hu (by rw [e]; exact h)
theorem ne_dat {n : Nat} (N : News h₀ L s.heap news) (Da : DatIn n₁ a d) (sa : ∀ p ∈ n₁, p ∈ news) (Db : DatIn n₂ b d) (sb : ∀ p ∈ n₂, p ∈ news)
    (hk : kqdOk n d = true) (hn : n ≤ 64) (hu : A.units + 64 < cLine) (h : Q (.bool false) s) : wpAny (model prog w) A (compareOp .NotEq a b) Q E s := by
  obtain ⟨as, ra⟩ := kqd_in N n (Da.mono sa) hk
  obtain ⟨bs, rb⟩ := kqd_in N n (Db.mono sb) hk
  have l := kqd_lay n d hk
  have e : PyData.eqv (kqdP d) (kqdP d) = true := (kqd_eqv n d d n hk hk).mpr rfl
  have sh : SeqAt.shaped (kqdP d) = true := by
    unfold SeqAt.shaped; rw [l.1, Bool.true_and]; exact decide_eq_true (Nat.le_trans l.2 hn)
  exact ne_dataH ra rb sh sh hu (by rw [e]; exact h)
end
end Mine
end
/-! NzJoined -/
section
open PySem PySem.W PySem.Spec PySem.Calls PyProof.Rows
namespace Mine
theorem word_NzJoined_0 : True := by
  k_with_none
  w_top off
  trivial
set_option maxRecDepth 100000
set_option maxHeartbeats 8000000
set_option linter.all false
theorem fill_joined : (fun (_ : PySem.W.OpenLaw) (_ : Params → Frag) => True) PySem.Challenge.rw_nz0213_01 hd.heap_1 := by
  k_fill
  trivial
theorem word_NzJoined_1 : True := by
  k_with "my call ref" => (k_here; (with_reducible show wpAny _ _ (call (Value.ref 304) _ _) _ _ _); k_dflt (refine con_go (by k_asm) (by exact fun _ hp => hp) (by k_asm) (by k_asm) (by k_asm) (by k_asm) (by exact rfl) (gap_con (by k_all) (by assumption) (by assumption) (by assumption) (by assumption)) (by ((try simp only [depth_deeper, ktrTop]); omega)) (by ((try simp only [units_deeper, ktrTop]); omega)) (by exact fun _ hc => hc.elim) ?_; intro r9 news9 h9 tk9 F9 N9 hP9; refine Exists.elim hP9 ?_; clear hP9; intro G9 hP9; refine Exists.elim hP9 ?_; clear hP9; intro tG9 hP9; refine Exists.elim hP9 ?_; clear hP9; intro pa9 hP9; refine Exists.elim hP9 ?_; clear hP9; intro pb9 hP9; refine Exists.elim hP9 ?_; clear hP9; intro ta9 hP9; refine Exists.elim hP9 ?_; clear hP9; intro tb9 hP9; refine And.elim ?_ hP9; clear hP9; intro hr9 hP9; refine And.elim ?_ hP9; clear hP9; intro hn9 hP9; subst hr9; subst hn9; refine And.elim ?_ hP9; clear hP9; intro hq9 hP9; refine And.elim ?_ hq9; clear hq9; intro hpa9 hq9; refine And.elim ?_ hq9; clear hq9; intro hpb9 hq9; refine And.elim ?_ hq9; clear hq9; intro hpc9 hpd9; refine And.elim ?_ hP9; clear hP9; intro hb9 hP9; refine And.elim ?_ hP9; clear hP9; intro hl9 hP9; (try k_sweep); (try dsimp only); (try k_fold)))
  trivial
theorem needs_con2 {w : World} {mean : ExcName → Option Value} {mg mb : Str → Option Value} {o1 o2 : Str} {to1 to2 : Tok} {zs : List (Addr × Obj)} :
    Con w mean mg mb 297 [.str o1 to1, .str o2 to2] zs 2 16 (fun r news' => r = .bool (needsB o1 o2) ∧ news' = zs) NoExc :=
  con_mono needs_con (Nat.le_refl _) (Nat.le_refl _) (fun r n ⟨new, hr, hn⟩ => ⟨zs, fun p hp => by rw [hn]; exact List.mem_append_right _ hp, hr, rfl⟩) fun _ h => h
theorem word_NzJoined_2 : True := by
  k_with "my call ref" => (k_here; (with_reducible show wpAny _ _ (call (Value.ref 297) _ _) _ _ _); k_dflt (refine con_go (by k_asm) (by exact fun _ hp => hp) (by k_asm) (by k_asm) (by k_asm) (by k_asm) (by exact rfl) (needs_con2) (by ((try simp only [depth_deeper, ktrTop]); omega)) (by ((try simp only [units_deeper, ktrTop]); omega)) (by exact fun _ hc => hc.elim) ?_; intro r9 news9 h9 tk9 F9 N9 hP9; refine And.elim ?_ hP9; clear hP9; intro hr9 hP9; subst hr9; subst hP9; (try k_sweep); (try dsimp only); (try k_fold)))
  trivial

theorem if5 {a b c d e : Str} {A B C D E A' B' C' D' E' : Option Value} {f : Str → Option Value} :
    (fun y => if y = a then A else if y = b then B else if y = c then C else if y = d then D else if y = e then E else if y = a then A' else if y = b then B' else if y = c then C' else if y = d then D' else if y = e then E' else f y) =
    fun y => if y = a then A else if y = b then B else if y = c then C else if y = d then D else if y = e then E else f y := by
  funext y
  by_cases h1 : y = a
  · simp only [h1, if_true]
  by_cases h2 : y = b
  · simp only [h1, h2, if_true, if_false]
  by_cases h3 : y = c
  · simp only [h1, h2, h3, if_true, if_false]
  by_cases h4 : y = d
  · simp only [h1, h2, h3, h4, if_true, if_false]
  by_cases h5 : y = e
  · simp only [h1, h2, h3, h4, h5, if_true, if_false]
  simp only [h1, h2, h3, h4, h5, if_false]
theorem if5_init {a b c d e : Str} {A B : Option Value} {l : List (Str × Value)} (hab : a ≠ b) (hc : List.lookup c l = none) (hd : List.lookup d l = none) (he : List.lookup e l = none) :
    (fun y => if y = b then B else if y = a then A else List.lookup y l) = fun y => if y = a then A else if y = b then B else if y = c then none else if y = d then none else if y = e then none else List.lookup y l := by
  funext y
  by_cases h1 : y = a
  · have h2 : ¬ y = b := fun z => hab (h1.symm.trans z)
    rw [if_neg h2, if_pos h1, if_pos h1]
  by_cases h2 : y = b
  · rw [if_pos h2, if_neg h1, if_pos h2]
  rw [if_neg h2, if_neg h1, if_neg h1, if_neg h2]
  by_cases h3 : y = c
  · rw [if_pos h3, h3]; exact hc
  by_cases h4 : y = d
  · rw [if_neg h3, if_pos h4, h4]; exact hd
  by_cases h5 : y = e
  · rw [if_neg h3, if_neg h4, if_pos h5, h5]; exact he
  rw [if_neg h3, if_neg h4, if_neg h5]
theorem strs_split : ∀ {pre : List Value} {v : Value} {suf : List Value} {ms : List Str}, StrsAre (pre ++ v :: suf) ms → ∃ ps m t ss, ms = ps ++ m :: ss ∧ StrsAre pre ps ∧ v = .str m t ∧ StrsAre suf ss
  | [], _, _, _, .cons y t h => ⟨[], y, t, _, rfl, .nil, rfl, h⟩
  | _ :: pre, _, _, _, .cons y t h => by
    obtain ⟨ps, m, t', ss, e, h1, h2, h3⟩ := strs_split (pre := pre) h
    exact ⟨y :: ps, m, t', ss, by rw [e]; rfl, .cons y t h1, h2, h3⟩
theorem strs_det : ∀ {vs : List Value} {a b : List Str}, StrsAre vs a → StrsAre vs b → a = b
  | [], _, _, .nil, .nil => rfl
  | _ :: _, _, _, .cons y t h, .cons _ _ h' => by rw [strs_det h h']
theorem strs_app {m : Str} {t : Tok} : ∀ {vs : List Value} {a : List Str}, StrsAre vs a → StrsAre (vs ++ [.str m t]) (a ++ [m])
  | _, _, .nil => .cons m t .nil
  | _, _, .cons y t' h => .cons y t' (strs_app h)
theorem strs_len : ∀ {vs : List Value} {a : List Str}, StrsAre vs a → vs.length = a.length
  | _, _, .nil => rfl
  | _, _, .cons y t' h => by rw [List.length_cons, List.length_cons, strs_len h]
theorem item_at {prog : Program} {w : World} {A : Around} {E : Value → Shared → Prop} {s : Shared} {h₀ : Heap} {L : Addr} {news : List (Addr × Obj)} {value slice : PySem.Expr} {l : Addr} {vs : List Value} {n : Nat} {k : Int} {u : Tok} {x : Value} {j : Nat} {Q : Value → Shared → Prop}
    (N : News h₀ L s.heap news) (hm : (l, listOf vs.toArray n) ∈ news) (hx : vs[j]? = some x) (h0 : 0 ≤ k) (hk : k.toNat = j) (hb : k ≤ 1000) (h : Q x s)
    (hs : subscripted slice false (.ref l) (.int k u) = operate [.ref l, .int k u] (getItem (.ref l) (.int k u)) := by with_unfolding_all rfl)
    (hg : ∀ r, letTemporaryGo value (.ref l) r = pure () := by intro _; with_unfolding_all rfl) :
    wpAny (model prog w) A (subscriptTail value slice (.ref l) (.int k u)) Q E s :=
  item_list (News.isList N hm) h0 (by omega) (by rw [hk]; simpa using hx) h hs hg
theorem spr_of {ms : List Str} {T : Str} (h : Wd ms T.cps.toList) : Spr ms T := ⟨_, [], h, fun c hc => absurd hc List.not_mem_nil, by rw [List.append_nil]⟩
theorem spr_gap {ms : List Str} {T G : Str} (h : Wd ms T.cps.toList) (hb : ∀ c ∈ G.cps.toList, isBl c = true) : Spr ms (T ++ G) := ⟨_, _, h, hb, by rw [Str.cps_append, Array.toList_append]⟩
theorem wd_step {prs : List Str} {W G mk : Str} (hW : Wd prs W.cps.toList) (hb : ∀ c ∈ G.cps.toList, isBl c = true) (hn : ∀ a, prs.getLast? = some a → needsB a mk = true → G.cps.toList ≠ []) : Wd (prs ++ [mk]) (W ++ G ++ mk).cps.toList := by
  rw [Str.cps_append, Str.cps_append, Array.toList_append, Array.toList_append]
  exact wd_snoc hW hb hn
theorem len_step {prs : List Str} {W G mk : Str} {k : Nat} (hW : W.length ≤ 5 * prs.length + k) (hG : G.length ≤ 2) (hm : mk.length ≤ 3) : (W ++ G ++ mk).length ≤ 5 * (prs ++ [mk]).length + k := by
  rw [Str.length_append, Str.length_append, List.length_append, List.length_singleton]; omega
theorem len_step0 {prs : List Str} {W G mk : Str} (hW : W.length ≤ 5 * prs.length) (hG : G.length ≤ 2) (hm : mk.length ≤ 3) : (W ++ G ++ mk).length ≤ 5 * (prs ++ [mk]).length := len_step (k := 0) hW hG hm
theorem bl_none : ∀ c ∈ (PySem.Str.ofString "").cps.toList, isBl c = true := by rw [show (PySem.Str.ofString "").cps.toList = [] from by decide +kernel]; intro c hc; exact absurd hc List.not_mem_nil
theorem bl_sp : ∀ c ∈ (PySem.Str.ofString " ").cps.toList, isBl c = true := by rw [show (PySem.Str.ofString " ").cps.toList = [32] from by decide +kernel]; decide
theorem ne_sp : (PySem.Str.ofString " ").cps.toList ≠ [] := by rw [show (PySem.Str.ofString " ").cps.toList = [32] from by decide +kernel]; decide
theorem len_none : (PySem.Str.ofString "").length ≤ 2 := by decide +kernel
theorem len_sp : (PySem.Str.ofString " ").length ≤ 2 := by decide +kernel
theorem off2_upd {a I : Addr} {o o' : Obj} {zs : List (Addr × Obj)} (h : ∀ p ∈ (a, o) :: zs, p.1 ≠ I + 1 ∧ p.1 ≠ I) : ∀ p ∈ (a, o') :: zs, p.1 ≠ I + 1 ∧ p.1 ≠ I := fun p hp => by
  rcases List.mem_cons.mp hp with rfl | hp
  · exact h (a, o) (.head _)
  · exact h p (.tail _ hp)
theorem last_snoc {ps : List Str} {mu a : Str} (h : (ps ++ [mu]).getLast? = some a) : a = mu := by simpa using h.symm
theorem no_last {P : Str → Prop} : ∀ a, ([] : List Str).getLast? = some a → P a := fun a z => by cases z
theorem news_front {h₀ h : Heap} {L : Addr} {t q : Addr × Obj} {r : List (Addr × Obj)} (N : News h₀ L h (t :: q :: r)) : News h₀ L h (q :: t :: r) := fun p hp => N p (by
  rcases List.mem_cons.mp hp with rfl | hp
  · exact .tail _ (.head _)
  · rcases List.mem_cons.mp hp with rfl | hp
    · exact .head _
    · exact .tail _ (.tail _ hp))
theorem word_NzJoined_3 : True := by
  k_with "my last subscriptTail" => (k_here; (with_reducible show wpAny _ _ (subscriptTail _ _ (Value.ref _) (Value.int _ _)) _ _ _); k_dflt (refine item_at (by k_asm) (by k_mem) (by assumption) (by omega) (by omega) (by omega) ?_))
  trivial
theorem word_NzJoined_4 : True := by
  k_with "my exec For Tuple Call cons nil" => refine stop_here ?_
  trivial
theorem word_NzJoined_5 : True := by
  k_with "my call type:enumerate" => refine stop_here ?_
  trivial
theorem joined_con {w : World} {mean : ExcName → Option Value} {mg mb : Str → Option Value} {lp lm : Addr} {pa pb : Int} {ta tb : Tok} {n nm : Nat} {vs : List Value} {ms : List Str} {zs : List (Addr × Obj)} (hv : StrsAre vs ms) (hl : ms.length ≤ 14) (h3 : ∀ m ∈ ms, m.length ≤ 3) (hpm : @Ne Nat lm lp) (hz : ∀ q ∈ zs, q.1 ≠ lp) (ha0 : 0 ≤ pa) (ha1 : pa < 10 ^ 90) (hb0 : 0 ≤ pb) (hb1 : pb < 2147483647) :
    Con w mean mg mb 311 [.ref lp, .ref lm] ((lp, poolO pa pb ta tb n) :: (lm, listOf vs.toArray nm) :: zs) 6 48
      (fun r news' => ∃ (a : Addr) (W Th : Str) (tW tTh : Tok) (a' b' : Int) (ta' tb' : Tok) (nt : Nat), r = .ref a ∧ news' = (lp, poolO a' b' ta' tb' n) :: (a, ({ cls := .type "tuple", data := .seq #[.str W tW, .str Th tTh] nt } : Obj)) :: (lm, listOf vs.toArray nm) :: zs ∧ PoolOk a' b' ∧ Spr ms W ∧ Spr ms Th ∧ W.length ≤ 200 ∧ Th.length ≤ 200 ∧ @Ne Nat a lp) NoExc := by
  intro dp un gd cn cs a ccd cl outer A₀ base h₀ L m s Q E B F X N TT hk hdp hun ret exc
  have hvl := strs_len hv
  refine wpAny_call ?_
  k_dflt ktr_enter
  rename Fr _ _ _ _ => F1
  replace F1 : Fr _ _ _ (fun y => List.lookup y [(PySem.Str.ofString "marks", .ref lm), (PySem.Str.ofString "pool", .ref lp)]) := F1
  have hz2 : ∀ q ∈ (lm, listOf vs.toArray nm) :: zs, q.1 ≠ lp := fun q hq => by
    rcases List.mem_cons.mp hq with rfl | hq
    · exact hpm
    · exact hz q hq
  k_steps
  rename Fr _ _ _ _ => F2
  unfold Stop
  refine For_turns F2 ?_
  k_steps
  rename Fr _ _ _ _ => F3
  rename News _ _ _ ((_, _) :: (lp, _) :: _) => N3
  unfold Stop
  refine' enum_inv (L := _) ?hL rfl F3 (fun p hp => N3 p (.tail _ hp)) ?hm (fun pre m news => ∃ (prs : List Str) (W Th : Str) (tW tTh : Tok) (a' b' : Int) (ta' tb' : Tok) (o1 o2 o3 : Option Value),
    m = (fun y => if y = PySem.Str.ofString "thin" then some (Value.str Th tTh) else if y = PySem.Str.ofString "wide" then some (Value.str W tW) else if y = PySem.Str.ofString "needed" then o1 else if y = PySem.Str.ofString "mark" then o2 else if y = PySem.Str.ofString "at" then o3 else List.lookup y [(PySem.Str.ofString "marks", .ref lm), (PySem.Str.ofString "pool", .ref lp)]) ∧
    news = (lp, poolO a' b' ta' tb' n) :: (lm, listOf vs.toArray nm) :: zs ∧ StrsAre pre prs ∧ PoolOk a' b' ∧ Wd prs W.cps.toList ∧ Wd prs Th.cps.toList ∧ W.length ≤ 5 * prs.length + 2 ∧ Th.length ≤ 5 * prs.length) ?h0 ?tn ?dn
  case hL => exact rfl
  case hm => exact .tail _ (.head _)
  case h0 =>
    refine ⟨[], _, PySem.Str.ofString "", _, _, _, _, _, _, none, none, none, if5_init (by decide) rfl rfl rfl, rfl, .nil, ⟨by assumption, by assumption, by assumption, by assumption⟩, .nil (by assumption), .nil ?_, ?_, ?_⟩
    · exact bl_none
    · simp only [List.length_nil]; assumption
    · decide +kernel
  case tn =>
    clear F3 N3
    rintro pre v suf m₁ news₁ h tk t T I oe oi hvs hoff hlm ⟨prs, W, Th, tW, tTh, a', b', ta', tb', o1, o2, o3, e0, e1, hpr, ⟨p1, p2, p3, p4⟩, hW, hTh, lW, lTh⟩ hT F1 N1 R IH
    subst e0 e1
    obtain ⟨ps, mk, tmk, ss, hms, hps, hvv, hss⟩ := strs_split (by rw [← hvs]; exact hv)
    have := strs_det hps hpr
    subst this hvv
    have hlen : ps.length + (ss.length + 1) ≤ 14 := by have := hl; rw [hms, List.length_append, List.length_cons] at this; exact this
    have hmk : mk.length ≤ 3 := h3 mk (by rw [hms]; exact List.mem_append_right _ (.head _))
    have hI1 : @Ne Nat lp (I + 1) := (hoff _ (.head _)).1
    have hI0 : @Ne Nat lp I := (hoff _ (.head _)).2
    have hpl := strs_len hps
    replace N1 : News _ _ _ ((lp, poolO a' b' ta' tb' n) :: (I + 1, oe) :: (I, oi) :: (lm, listOf vs.toArray nm) :: zs) := N1
    rcases List.eq_nil_or_concat pre with rfl | ⟨pre', u, rfl⟩
    · cases hps
      k_steps
      rename Fr _ _ _ _ => F9
      rename News _ _ _ _ => N9
      refine IH _ _ _ ((lp, poolO _ _ _ _ n) :: (lm, listOf vs.toArray nm) :: zs) F9 N9 (off2_upd hoff) (.tail _ (.head _)) ⟨_, _, _, _, _, _, _, _, _, _, _, _, if5, rfl, strs_app hpr, ⟨p1, p2, p3, p4⟩, wd_step hW bl_none no_last, wd_step hTh bl_none no_last, len_step lW len_none hmk, len_step0 lTh len_none hmk⟩
    · rw [List.concat_eq_append] at *
      obtain ⟨ps', mu, tu, ss', e1, hps', hu, hss'⟩ := strs_split (pre := pre') (v := u) (suf := []) hps
      cases hss'
      subst e1 hu
      rw [List.length_append, List.length_singleton] at hpl hlen
      have hpl2 : pre'.length = ps'.length := strs_len hps'
      have hgd : ms.getD (((pre'.length + 1 : Nat) : Int) - 1).toNat Str.empty = mu := by
        rw [show ((((pre'.length + 1 : Nat) : Int) - 1).toNat) = ps'.length from by omega, hms]; simp
      have hix : vs[pre'.length]? = some (.str mu tu) := by rw [hvs]; simp
      have hT' : IsTup h T #[.int ((pre'.length + 1 : Nat) : Int) t, .str mk tmk] := by
        have := hT
        rw [List.length_append, List.length_singleton] at this
        exact this
      clear hT
      k_steps
      · rename (needsB _ mk = true → _) => hgn
        rename Fr _ _ _ _ => F9
        rename News _ _ _ _ => N9
        refine IH _ _ _ ((lp, poolO _ _ _ _ n) :: (lm, listOf vs.toArray nm) :: zs) F9 N9 (off2_upd hoff) (.tail _ (.head _)) ⟨_, _, _, _, _, _, _, _, _, _, _, _, if5, rfl, strs_app hpr, ⟨by assumption, by assumption, by assumption, by assumption⟩, wd_step hW (by assumption) ?_, wd_step hTh bl_sp (fun _ _ _ => ne_sp), len_step lW (by assumption) hmk, len_step0 lTh len_sp hmk⟩
        exact fun a ha hn => by rw [last_snoc ha] at hn; rw [hgd] at hgn; exact hgn hn
      · rename (needsB _ mk = false) => hnd
        rw [hgd] at hnd
        rename Fr _ _ _ _ => F9
        rename News _ _ _ _ => N9
        refine IH _ _ _ ((lp, poolO _ _ _ _ n) :: (lm, listOf vs.toArray nm) :: zs) F9 N9 (off2_upd hoff) (.tail _ (.head _)) ⟨_, _, _, _, _, _, _, _, _, _, _, _, if5, rfl, strs_app hpr, ⟨by assumption, by assumption, by assumption, by assumption⟩, wd_step hW (by assumption) ?_, wd_step hTh bl_none ?_, len_step lW (by assumption) hmk, len_step0 lTh len_none hmk⟩
        · exact fun a ha hn => by rw [last_snoc ha, hnd] at hn; cases hn
        · exact fun a ha hn => by rw [last_snoc ha, hnd] at hn; cases hn
  case dn =>
    clear F3 N3
    rintro m₁ news₁ h tk ⟨prs, W, Th, tW, tTh, a', b', ta', tb', o1, o2, o3, e0, e1, hpr, ⟨p1, p2, p3, p4⟩, hW, hTh, lW, lTh⟩ F1 N1
    subst e0 e1
    have := strs_det hv hpr
    subst this
    have lW2 : W.length ≤ 90 := by omega
    have lTh2 : Th.length ≤ 90 := by omega
    k_steps
    rename News h₀ L _ _ => N9
    exact ret _ _ _ _ (by assumption) (news_front N9) ⟨_, _, _, _, _, _, _, _, _, _, rfl, rfl, ⟨by assumption, by assumption, by assumption, by assumption⟩, spr_gap hW (by assumption), spr_of hTh, by omega, by omega, by k_ne⟩
end Mine
end
/-! NzRight -/
section
open PySem PySem.W PySem.Spec PySem.Calls PyProof.Rows
namespace Mine
theorem word_NzRight_0 : True := by
  k_with_none
  w_top off
  trivial
set_option maxRecDepth 100000
set_option maxHeartbeats 8000000
set_option linter.all false
theorem fill_right : (fun (_ : PySem.W.OpenLaw) (_ : Params → Frag) => True) PySem.Challenge.rw_nz0213_01 hd.heap_1 := by
  k_fill
  trivial

theorem conR_use {w : World} {mean : ExcName → Option Value} {mg mb : Str → Option Value} {f : Addr} {args : List Value} {news : List (Addr × Obj)} {nd nu : Nat} {Post : Value → List (Addr × Obj) → Prop} (C : ConR w mean mg mb f args news nd nu Post)
    {dp un : Nat} {gd : Option (List Code)} {cn : Str} {cs : Scope} {a : Addr} {ccd : Value} {outer : List Env} {A₀ : Around} {base g0 h₀ : Heap} {L : Addr} {m : Str → Option Value} {s : Shared} {Q E : Value → Shared → Prop}
    (B : Below A₀ base outer h₀) (F : Fr h₀ L s.heap m) (X : (hd.heap_1 w.params).In h₀) (N : News h₀ L s.heap news) (T : TopW mean mg mb h₀) (hk : cs.kind = .function) (hdp : dp + nd < recursionLimit) (hun : un + nu < cLine)
    (XB : (hd.heap_1 w.params).In base) (TB : TopW mean mg mb base) (D : KtsDicts (outer.filterMap (·.frame)) h₀) (T0 : KtsTurn (outer.filterMap (·.frame)) g0 h₀)
    (ret : ∀ r h1 new h' tk', (∀ p ∈ new, ∀ q ∈ news, p.1 ≠ q.1) → KtsTurn (outer.filterMap (·.frame)) g0 h1 → Fr h1 L h' m → News h1 L h' (new ++ news) → Below A₀ base outer h1 → (hd.heap_1 w.params).In h1 → TopW mean mg mb h1 → KtsDicts (outer.filterMap (·.frame)) h1 → Post r new → Q r { s with heap := h', toks := tk' }) :
    wpAny (model Pg w) (ktrTop dp un gd cn cs L a ccd [] outer) (call (.ref f) args) Q E s :=
  C dp un gd cn cs a ccd outer A₀ base h₀ L m s Q E B F X N T hk hdp hun XB TB D fun r h1 new h' tk' a0 a1 a2 a3 a4 a5 a6 a7 a8 => ret r h1 new h' tk' a0 (T0.trans a1) a2 a3 a4 a5 a6 a7 a8
theorem conR_mono {w : World} {mean : ExcName → Option Value} {mg mb : Str → Option Value} {f : Addr} {args : List Value} {news : List (Addr × Obj)} {nd nu nd' nu' : Nat} {Post Post' : Value → List (Addr × Obj) → Prop} (C : ConR w mean mg mb f args news nd nu Post) (h1 : nd ≤ nd') (h2 : nu ≤ nu') (hP : ∀ r n, Post r n → Post' r n) :
    ConR w mean mg mb f args news nd' nu' Post' := by
  intro dp un gd cn cs a ccd outer A₀ base h₀ L m s Q E B F X N TT hk hdp hun XB TB D ret
  exact C dp un gd cn cs a ccd outer A₀ base h₀ L m s Q E B F X N TT hk (Nat.lt_of_le_of_lt (Nat.add_le_add_left h1 _) hdp) (Nat.lt_of_le_of_lt (Nat.add_le_add_left h2 _) hun) XB TB D fun r h1 new h' tk' a0 a1 a2 a3 a4 a5 a6 a7 a8 => ret r h1 new h' tk' a0 a1 a2 a3 a4 a5 a6 a7 (hP _ _ a8)

/-- a call from the law itself -/
def ConS (w : World) (mean : ExcName → Option Value) (mg mb : Str → Option Value) (f : Addr) (args : List Value) (news : List (Addr × Obj)) (nd nu : Nat) (Post : Value → List (Addr × Obj) → Prop) : Prop :=
  ∀ (dp un : Nat) (gd : Option (List Code)) (cn : Str) (cs : Scope) (a : Addr) (ccd : Value) (A₀ : Around) (base h₀ : Heap) (L : Addr) (m : Str → Option Value) (s : Shared) (Q E : Value → Shared → Prop),
    Below A₀ base [] h₀ → Fr h₀ L s.heap m → (hd.heap_1 w.params).In h₀ → News h₀ L s.heap news → TopW mean mg mb h₀ → cs.kind = .function → dp + nd < recursionLimit → un + nu < cLine →
    (hd.heap_1 w.params).In base → TopW mean mg mb base →
    (∀ r news' h' tk', Fr h₀ L h' m → News h₀ L h' news' → Post r news' → Q r { s with heap := h', toks := tk' }) →
    wpAny (model Pg w) (ktrTop dp un gd cn cs L a ccd [] []) (call (.ref f) args) Q E s
theorem fr_turn {h₀ h1 h : Heap} {L : Addr} {m : Str → Option Value} (T : KtsTurn [] h₀ h1) (F : Fr h1 L h m) : Fr h₀ L h m :=
  ⟨F.ns, fun b o e => F.keep b o (T.other b o e List.not_mem_nil), by rw [← T.size]; exact F.above⟩
theorem news_turn {h₀ h1 h : Heap} {L : Addr} {news : List (Addr × Obj)} (T : KtsTurn [] h₀ h1) (N : News h1 L h news) : News h₀ L h news := fun p hp => ⟨(N p hp).1, (N p hp).2.1, by
  cases q : h₀.get? p.1 with
  | none => rfl
  | some o =>
    have := T.other _ _ q List.not_mem_nil
    rw [(N p hp).2.2] at this
    cases this⟩
/-- a def that catches, called from the law itself -/
theorem conS_of {w : World} {mean : ExcName → Option Value} {mg mb : Str → Option Value} {f : Addr} {args : List Value} {news : List (Addr × Obj)} {nd nu : Nat} {Post : Value → List (Addr × Obj) → Prop} (C : ConR w mean mg mb f args news nd nu Post) :
    ConS w mean mg mb f args news nd nu (fun r news' => ∃ new, news' = new ++ news ∧ (∀ p ∈ new, ∀ q ∈ news, p.1 ≠ q.1) ∧ Post r new) := by
  intro dp un gd cn cs a ccd A₀ base h₀ L m s Q E B F X N TT hk hdp hun XB TB ret
  exact C dp un gd cn cs a ccd [] A₀ base h₀ L m s Q E B F X N TT hk hdp hun XB TB ktsDicts_nil fun r h1 new h' tk' a0 a1 a2 a3 a4 a5 a6 a7 a8 => ret r _ h' tk' (fr_turn a1 a2) (news_turn a1 a3) ⟨new, rfl, a0, a8⟩

/-- the marks of a law's text, read -/
theorem read_marks {w : World} {mean : ExcName → Option Value} {mg mb : Str → Option Value} {T : Str} {tt : Tok} {ms : List Str} {news : List (Addr × Obj)} (hT : T.length ≤ 1000) (hs : Spr ms T) (hm : ∀ m ∈ ms, MarkOk m) (hl : ms.length ≤ 14) :
    ConR w mean mg mb 290 [.str T tt] news 96 768 (fun r new => DatIn new r (rdOf (ms.map tkOf))) := by
  have e := spr_tks hs (fun m hx => (hm m hx).1)
  have hn : (tks T 0).length = ms.length := by rw [e, List.length_map]
  have hd := rdDep_le (tks T 0)
  refine conR_mono (read_con hT hn (by omega)) (by omega) (by omega) fun r n h => ?_
  rw [e] at h; exact h
theorem news_back2 {h₀ h : Heap} {L : Addr} {t q : Addr × Obj} {new r : List (Addr × Obj)} (N : News h₀ L h (new ++ (t :: q :: r))) : News h₀ L h (t :: q :: (new ++ r)) := fun p hp => N p (by
  rcases List.mem_cons.mp hp with rfl | hp
  · exact List.mem_append_right _ (.head _)
  · rcases List.mem_cons.mp hp with rfl | hp
    · exact List.mem_append_right _ (.tail _ (.head _))
    · exact (List.mem_append.mp hp).elim (List.mem_append_left _) fun h => List.mem_append_right _ (.tail _ (.tail _ h)))
theorem mem_far {n3 n2 n1 zs : List (Addr × Obj)} {a b c : Addr × Obj} : ∀ p ∈ a :: c :: zs, p ∈ n3 ++ (n2 ++ (a :: b :: c :: (n1 ++ zs))) := fun p hp => by
  refine List.mem_append_right _ (List.mem_append_right _ ?_)
  rcases List.mem_cons.mp hp with rfl | hp
  · exact .head _
  · rcases List.mem_cons.mp hp with rfl | hp
    · exact .tail _ (.tail _ (.head _))
    · exact .tail _ (.tail _ (.tail _ (List.mem_append_right _ hp)))
theorem marks_sum : ∀ (ms : List Str), (∀ m ∈ ms, m.length ≤ 3) → (ms.map (·.length)).sum ≤ 3 * ms.length
  | [], _ => Nat.zero_le _
  | m :: ms, h => by
    have h1 := marks_sum ms fun x hx => h x (.tail _ hx)
    have h2 := h m (.head _)
    simp only [List.map_cons, List.sum_cons, List.length_cons]
    omega
theorem word_NzRight_1 : True := by
  k_with "my call ref" => (k_here; (with_reducible show wpAny _ _ (call (Value.ref 311) _ _) _ _ _); k_dflt (refine con_go (by k_asm) (by exact fun _ hp => hp) (by k_asm) (by k_asm) (by k_asm) (by k_asm) (by exact rfl) (joined_con (by assumption) (by assumption) (by assumption) (by assumption) (by assumption) (by assumption) (by assumption) (by assumption) (by assumption)) (by ((try simp only [depth_deeper, ktrTop]); omega)) (by ((try simp only [units_deeper, ktrTop]); omega)) (by exact fun _ hc => hc.elim) ?_; intro r9 news9 h9 tk9 F9 N9 hP9; refine Exists.elim hP9 ?_; clear hP9; intro a9 hP9; refine Exists.elim hP9 ?_; clear hP9; intro W9 hP9; refine Exists.elim hP9 ?_; clear hP9; intro Th9 hP9; refine Exists.elim hP9 ?_; clear hP9; intro tW9 hP9; refine Exists.elim hP9 ?_; clear hP9; intro tTh9 hP9; refine Exists.elim hP9 ?_; clear hP9; intro pa9 hP9; refine Exists.elim hP9 ?_; clear hP9; intro pb9 hP9; refine Exists.elim hP9 ?_; clear hP9; intro ta9 hP9; refine Exists.elim hP9 ?_; clear hP9; intro tb9 hP9; refine Exists.elim hP9 ?_; clear hP9; intro nt9 hP9; refine And.elim ?_ hP9; clear hP9; intro hr9 hP9; refine And.elim ?_ hP9; clear hP9; intro hn9 hP9; subst hr9; subst hn9; refine And.elim ?_ hP9; clear hP9; intro hq9 hP9; refine And.elim ?_ hP9; clear hP9; intro hW9 hP9; refine And.elim ?_ hP9; clear hP9; intro hTh9 hP9; refine And.elim ?_ hP9; clear hP9; intro lW9 hP9; refine And.elim ?_ hP9; clear hP9; intro lTh9 hP9; (try k_sweep); (try dsimp only); (try k_fold)))
  trivial
theorem word_NzRight_2 : True := by
  k_with "my call ref" => ((show wpAny _ _ (call (Value.ref 290) _ _) _ _ _); refine stop_here ?_)
  trivial
theorem word_NzRight_3 : True := by
  k_with "my call builtin:str.join" => (k_here; (with_reducible show wpAny _ _ (call (Value.builtin _) [Value.str _ _, Value.ref _]) _ _ _); k_dflt (refine join_listW (by exact News.isList (by k_asm) (by k_mem)) (by assumption) (by decide +kernel) (by assumption) ?_); intro _ _)
  trivial
theorem word_NzRight_4 : True := by
  k_with "my LeaveS0" => (refine stop_here ?_)
  trivial
theorem word_NzRight_5 : True := by
  k_with "my compareOp Eq ref ref" => (refine stop_here ?_)
  trivial
theorem right_con {w : World} {mean : ExcName → Option Value} {mg mb : Str → Option Value} {lp lm : Addr} {pa pb : Int} {ta tb : Tok} {n nm : Nat} {vs : List Value} {ms : List Str} {zs : List (Addr × Obj)} (hv : StrsAre vs ms) (hl : ms.length ≤ 14) (hne : ms ≠ []) (hmk : ∀ m ∈ ms, MarkOk m) (hpm : @Ne Nat lm lp) (hz : ∀ q ∈ zs, q.1 ≠ lp) (ha0 : 0 ≤ pa) (ha1 : pa < 10 ^ 90) (hb0 : 0 ≤ pb) (hb1 : pb < 2147483647) :
    ConS w mean mg mb 318 [.ref lp, .ref lm] ((lp, poolO pa pb ta tb n) :: (lm, listOf vs.toArray nm) :: zs) 120 1000
      (fun r news' => ∃ (a' b' : Int) (ta' tb' : Tok), r = .bool true ∧ news' = (lp, poolO a' b' ta' tb' n) :: (lm, listOf vs.toArray nm) :: zs ∧ PoolOk a' b') := by
  intro dp un gd cn cs a ccd A₀ base h₀ L m s Q E B F X N TT hk hdp hun XB TB ret
  have h3 : ∀ m ∈ ms, m.length ≤ 3 := fun m hx => (hmk m hx).2.1
  have hsum := marks_sum ms h3
  have hsum2 : (ms.map (·.length)).sum + ms.length ≤ 1048576 := by omega
  refine wpAny_call ?_
  k_dflt (refine' code_defS0 ?k1 ?k2 ?k3 ?k4 ?k5 ?kA ?k6 ?k7 ?k8 ?k9 ?kB ?_ ?cK ?c2 ?c3 ?c4 ?c5; (case kA => exact rfl); (case k2 => k_asm); (case k1 => k_asm); (case k3 => k_asm); (case k4 => k_asm); (case k5 => k_asm); (case k6 => k_is); (case k7 => k_is); (case k8 => (first | omega | ((try simp only [ktrTop]); omega))); (case k9 => exact BindsTo.of_eq rfl); (case kB => exact locs rfl); (case cK => assumption); (case c2 => exact rfl); (case c3 => exact rfl); (case c4 => exact rfl); (case c5 => decide); k_whole; intro g' L' h' FG' F' N' B' X' T' D'; (try dsimp only); (try k_fold))
  rename Fr _ _ _ _ => F1
  replace F1 : Fr _ _ _ (fun y => List.lookup y [(PySem.Str.ofString "marks", .ref lm), (PySem.Str.ofString "pool", .ref lp)]) := F1
  k_steps
  unfold Stop
  have hj : Spr ms (Txt.join (PySem.Str.ofString " ") ms) := by
    cases ms with
    | nil => exact absurd rfl hne
    | cons x r => exact join_spr
  have hjl : (Txt.join (PySem.Str.ofString " ") ms).length ≤ 1000 := by
    rw [txt_join]
    cases ms with
    | nil => exact absurd rfl hne
    | cons x r => have := join_len x r h3; simp only [List.length_cons] at hl; omega
  have hkd : kqdOk 16 (rdOf (ms.map tkOf)) = true := kqd_le (by rw [List.length_map]; omega) (rdOf_ok (wok_marks hmk))
  refine' conR_use (read_marks hjl hj hmk hl) ?b1 F1 ?x1 N' ?t1 rfl ?hd1 ?hu1 XB TB D' KtsTurn.refl ?r1
  case b1 => assumption
  case x1 => assumption
  case t1 => assumption
  case hd1 => ((try simp only [depth_deeper, ktrTop]); omega)
  case hu1 => ((try simp only [units_deeper, ktrTop]); omega)
  clear F1 N' D'
  intro r1 h1 new1 h' tk1 f1 T1 F1 N1 B1 X1 P1 D1 da1
  replace N1 := news_back2 N1
  have hz1 : ∀ q ∈ new1 ++ zs, q.1 ≠ lp := fun q hq => (List.mem_append.mp hq).elim (fun h => f1 q h _ (.head _)) (hz q)
  k_steps
  unfold Stop
  rename Fr _ _ _ _ => F3
  rename News _ _ _ _ => N3
  refine' conR_use (read_marks ?l2 ?s2 hmk hl) B1 F3 X1 N3 P1 rfl ?hd2 ?hu2 XB TB D1 T1 ?r2
  case s2 => assumption
  case l2 => omega
  case hd2 => ((try simp only [depth_deeper, ktrTop]); omega)
  case hu2 => ((try simp only [units_deeper, ktrTop]); omega)
  clear F3 N3 B1 X1 P1 D1 T1
  intro r2 h2 new2 h'' tk2 f2 T2 F4 N4 B2 X2 P2 D2 da2
  k_steps
  refine' eq_dat (n := 16) N4 da2 (fun _ hp => List.mem_append_left _ hp) da1 (fun _ hp => List.mem_append_right _ (.tail _ (.tail _ (.tail _ (List.mem_append_left _ hp))))) hkd (by decide) ?hu3 ?_
  case hu3 => ((try simp only [units_deeper, ktrTop]); omega)
  k_steps
  unfold Stop
  rename Fr _ _ _ _ => F5
  rename News _ _ _ _ => N5
  refine' conR_use (read_marks ?l4 ?s4 hmk hl) B2 F5 X2 N5 P2 rfl ?hd4 ?hu4 XB TB D2 T2 ?r4
  case s4 => assumption
  case l4 => omega
  case hd4 => ((try simp only [depth_deeper, ktrTop]); omega)
  case hu4 => ((try simp only [units_deeper, ktrTop]); omega)
  clear F5 N5 B2 X2 P2 D2 T2
  intro r3 h3 new3 h7 tk3 f3 T3 F6 N6 B3 X3 P3 D3 da3
  k_steps
  refine' eq_dat (n := 16) N6 da3 (fun _ hp => List.mem_append_left _ hp) da1 (fun _ hp => List.mem_append_right _ (List.mem_append_right _ (.tail _ (.tail _ (.tail _ (List.mem_append_left _ hp)))))) hkd (by decide) ?hu5 ?_
  case hu5 => ((try simp only [units_deeper, ktrTop]); omega)
  k_steps
  unfold Stop
  exact leaveS0_ F6 (fun p hp => N6 p (mem_far p hp)) T3 fun F7 N7 => ret _ _ _ _ F7 N7 ⟨_, _, _, _, rfl, rfl, by assumption⟩
end Mine
end
/-! NzRefused -/
section
open PySem PySem.W PySem.Spec PySem.Calls PyProof.Rows
namespace Mine
theorem word_NzRefused_0 : True := by
  k_with_none
  w_top off
  trivial
set_option maxRecDepth 100000
set_option maxHeartbeats 8000000
set_option linter.all false
theorem fill_refused : (fun (_ : PySem.W.OpenLaw) (_ : Params → Frag) => True) PySem.Challenge.rw_nz0213_01 hd.heap_1 := by
  k_fill
  trivial

/-- making a BadArgument -/
theorem call_ba {w : World} {mean : ExcName → Option Value} {mg mb : Str → Option Value} {R : Str} {tr : Tok}
    {dp un : Nat} {gd : Option (List Code)} {cn : Str} {cs : Scope} {a : Addr} {ccd : Value} {cl : List (Str × Addr)} {outer : List Env} {A₀ : Around} {base h₀ : Heap} {L : Addr} {m : Str → Option Value} {s : Shared} {zs : List (Addr × Obj)}
    {Q E : Value → Shared → Prop}
    (B : Below A₀ base outer h₀) (F : Fr h₀ L s.heap m) (X : (hd.heap_1 w.params).In h₀) (N : News h₀ L s.heap zs) (TT : TopW mean mg mb h₀) (hk : cs.kind = .function) (hdp : dp + 5 < recursionLimit) (hun : un + 40 < cLine)
    (ret : ∀ (e t dx : Addr) (od ot : Obj) h' tk', Fr h₀ L h' m → News h₀ L h' ((e, excObj 45 t (some dx)) :: (dx, od) :: (t, ot) :: zs) → Q (.ref e) { s with heap := h', toks := tk' }) :
    wpAny (model Pg w) (ktrTop dp un gd cn cs L a ccd cl outer) (call (.ref 45) [.str R tr]) Q E s := by
  obtain ⟨hh, g, dr, tk, os⟩ := s
  have N1 : News h₀ L (hh.push (tupObj [.str R tr])) _ := N.push F (tupObj [.str R tr])
  have F1 : Fr h₀ L (hh.push (tupObj [.str R tr])) m := F.push _
  have N2 := N1.push F1 (excObj 45 hh.objs.size none)
  have F2 := F1.push (excObj 45 hh.objs.size none)
  rw [Heap.size_push] at N2
  have hlt : ∀ p ∈ zs, @LT.lt Nat _ p.1 hh.objs.size := fun p hp => Heap.lt_size (N p hp).1
  refine' my_call_exc (fI := 29) (C := 45) ((Frag.In.keeps X F.keep)) ?b ?aa ?n ?c ?i ?f ?_ (by show 1 ≤ sizeLine; decide)
  case c => exact (Frag.In.keeps X F.keep) _ _ (by k_is)
  case b => decide +kernel
  case aa => decide +kernel
  case n => decide +kernel
  case i => k_is
  case f => k_is
  refine' con_use (be_init45 (zs := (hh.objs.size, tupObj [.str R tr]) :: zs) (fun q hq => ?_)) B F2 X N2 TT hk (fun _ hp => hp) ?_ ?_ (fun r news' h' tk' F' N' hP => ?_) (fun _ hc => hc.elim)
  · rcases List.mem_cons.mp hq with rfl | hq
    · exact Nat.ne_of_lt (Nat.lt_succ_self _)
    · exact Nat.ne_of_lt (Nat.lt_succ_of_lt (hlt q hq))
  · show dp + 1 + 1 < recursionLimit; omega
  · show un + 1 + 16 < cLine; omega
  · obtain ⟨t', dx, h1, t1, rfl, rfl, _⟩ := hP
    refine ⟨rfl, ret _ t' dx (dictOf [⟨h1, .str (PySem.Str.ofString "reason") t1, .str R tr⟩] 1) (tupObj [.str R tr]) h' tk' F' (fun p hp => N' p ?_)⟩
    simp only [List.mem_cons] at hp ⊢
    rcases hp with h | h | h | h <;> simp [h]
theorem call_baN {w : World} {mean : ExcName → Option Value} {mg mb : Str → Option Value} {R : Str} {tr : Tok} {dp un : Nat} {gd : Option (List Code)} {cn : Str} {cs : Scope} {a : Addr} {ccd : Value} {cl : List (Str × Addr)} {outer : List Env} {A₀ : Around} {base h₀ : Heap} {L : Addr} {m : Str → Option Value} {s : Shared} {zs : List (Addr × Obj)} {Q E : Value → Shared → Prop}
    (N : News h₀ L s.heap zs) (B : Below A₀ base outer h₀) (F : Fr h₀ L s.heap m) (X : (hd.heap_1 w.params).In h₀) (TT : TopW mean mg mb h₀) (hk : cs.kind = .function) (hdp : dp + 5 < recursionLimit) (hun : un + 40 < cLine) (ret : ∀ (e t dx : Addr) (od ot : Obj) h' tk', Fr h₀ L h' m → News h₀ L h' ((e, excObj 45 t (some dx)) :: (dx, od) :: (t, ot) :: zs) → Q (.ref e) { s with heap := h', toks := tk' }) :
    wpAny (model Pg w) (ktrTop dp un gd cn cs L a ccd cl outer) (call (.ref 45) [.str R tr]) Q E s
  := call_ba B F X N TT hk hdp hun ret
theorem word_NzRefused_1 : True := by
  k_with "my call ref" => (k_here; (with_reducible show wpAny _ _ (call (Value.ref 45) _ _) _ _ _); k_dflt (refine call_baN (by k_asm) (by k_asm) (by k_asm) (by k_asm) (by k_asm) (by exact rfl) (by ((try simp only [depth_deeper, ktrTop]); omega)) (by ((try simp only [units_deeper, ktrTop]); omega)) ?_; intro e9 t9 d9 od9 ot9 h9 tk9 F9 N9; (try k_sweep); (try dsimp only); (try k_fold)))
  trivial
theorem word_NzRefused_2 : True := by
  k_with "my exec Raise some none" => (refine raise_open ?_)
  trivial
theorem word_NzRefused_3 : True := by
  k_with "my RaiseRest" => (rename News _ _ _ ((_, excObj 45 _ _) :: _) => N9; rename Fr _ _ _ _ => F9; refine raise_done (C := 45) rfl (by exact (Frag.In.keeps (by assumption) (Fr.keep F9)) _ _ (by k_is)) (by decide +kernel) (N9 _ (.head _)).1 ?_; refine leave_raiseX (by assumption) F9 N9 (.head _) rfl rfl rfl (fun h8 R8 U8 => ?_); with_reducible rename (∀ (cls : Value), _ → ∀ (e : Addr) (g h' : Heap) (tk' : Nat), RaisedX _ _ _ _ _ _ → _) => exc8; exact exc8 _ rfl _ _ _ _ R8 (by assumption) U8)
  trivial
theorem parse_bad_none {w : World} {mean : ExcName → Option Value} {mg mb : Str → Option Value} :
    Con w mean mg mb 227 [.none] [] 20 100 (fun _ _ => False) (fun c => c = .ref 45) := by
  intro dp un gd cn cs a ccd cl outer A₀ base h₀ L m s Q E B F X N TT hk hdp hun ret exc
  refine wpAny_call ?_
  k_dflt ktr_enter
  rename Fr _ _ _ _ => F1
  replace F1 : Fr _ _ _ (fun y => List.lookup y [(PySem.Str.ofString "line", .none)]) := F1
  k_steps
theorem parse_bad_byt {w : World} {mean : ExcName → Option Value} {mg mb : Str → Option Value} {bb : Array UInt8} {tt : Tok} :
    Con w mean mg mb 227 [(.bytes bb tt)] [] 20 100 (fun _ _ => False) (fun c => c = .ref 45) := by
  intro dp un gd cn cs a ccd cl outer A₀ base h₀ L m s Q E B F X N TT hk hdp hun ret exc
  refine wpAny_call ?_
  k_dflt ktr_enter
  rename Fr _ _ _ _ => F1
  replace F1 : Fr _ _ _ (fun y => List.lookup y [(PySem.Str.ofString "line", (.bytes bb tt))]) := F1
  k_steps
theorem word_NzRefused_4 : True := by
  k_with "my call ref" => ((show wpAny _ _ (call (Value.ref 227) _ _) _ _ _); refine stop_here ?_)
  trivial
theorem refused_none {w : World} {mean : ExcName → Option Value} {mg mb : Str → Option Value} {news : List (Addr × Obj)} :
    ConR w mean mg mb 325 [.none] news 30 200 (fun r _ => r = .bool true) := by
  intro dp un gd cn cs a ccd outer A₀ base h₀ L m s Q E B F X N TT hk hdp hun XB TB D ret
  refine wpAny_call ?_
  k_dflt (refine' enter_R ?k1 ?k2 ?k3 ?k4 ?k5 ?kXB ?kTB ?kD ?kA ?k6 ?k7 ?k8 ?k9 ?kB ?_ ?cK ?c2 ?c3 ?c4 ?c5; (case kA => exact rfl); (case k2 => k_asm); (case k1 => k_asm); (case kXB => assumption); (case kTB => assumption); (case kD => assumption); (case k3 => k_asm); (case k4 => assumption); (case k5 => k_asm); (case k6 => k_is); (case k7 => k_is); (case k8 => (first | omega | ((try simp only [ktrTop]); omega))); (case k9 => exact BindsTo.of_eq rfl); (case kB => exact locs rfl); (case cK => assumption); (case c2 => exact rfl); (case c3 => exact rfl); (case c4 => exact rfl); (case c5 => decide); k_whole; intro g' L' h' FG' IG' F' N' B' X' T' D'; (try dsimp only); (try k_fold))
  rename Fr _ _ _ _ => F1
  replace F1 : Fr _ _ _ (fun y => List.lookup y [(PySem.Str.ofString "thing", .none)]) := F1
  k_steps
  unfold Stop
  refine' con_use parse_bad_none ?b F1 ?x N' ?t rfl (fun _ h => h) ?hd ?hu ?rt ?ex
  case b => assumption
  case x => assumption
  case t => assumption
  case hd => ((try simp only [depth_deeper, ktrTop]); omega)
  case hu => ((try simp only [units_deeper, ktrTop]); omega)
  case rt =>
    intro r news' h8 tk8 F8 N8 hf
    exact hf.elim
  case ex =>
    intro cls hc e g8 h8 tk8 R8 F8 U8
    subst hc
    refine' caught_X R8 F8 ?b U8 XB TB D' ?e ?q ?_
    case b => assumption
    case e => k_is
    case q => kts_isx
    intro h9 g9 T9 F9 B9 X9 P9 D9
    k_steps
    refine leaveR_mk T9 F9 News.nil fun h1 a0 a1 a2 a3 a4 a5 a6 a7 => ret _ _ _ _ _ a0 a1 a2 a3 a4 a5 a6 a7 rfl
theorem refused_byt {w : World} {mean : ExcName → Option Value} {mg mb : Str → Option Value} {bb : Array UInt8} {tt : Tok} {news : List (Addr × Obj)} :
    ConR w mean mg mb 325 [(.bytes bb tt)] news 30 200 (fun r _ => r = .bool true) := by
  intro dp un gd cn cs a ccd outer A₀ base h₀ L m s Q E B F X N TT hk hdp hun XB TB D ret
  refine wpAny_call ?_
  k_dflt (refine' enter_R ?k1 ?k2 ?k3 ?k4 ?k5 ?kXB ?kTB ?kD ?kA ?k6 ?k7 ?k8 ?k9 ?kB ?_ ?cK ?c2 ?c3 ?c4 ?c5; (case kA => exact rfl); (case k2 => k_asm); (case k1 => k_asm); (case kXB => assumption); (case kTB => assumption); (case kD => assumption); (case k3 => k_asm); (case k4 => assumption); (case k5 => k_asm); (case k6 => k_is); (case k7 => k_is); (case k8 => (first | omega | ((try simp only [ktrTop]); omega))); (case k9 => exact BindsTo.of_eq rfl); (case kB => exact locs rfl); (case cK => assumption); (case c2 => exact rfl); (case c3 => exact rfl); (case c4 => exact rfl); (case c5 => decide); k_whole; intro g' L' h' FG' IG' F' N' B' X' T' D'; (try dsimp only); (try k_fold))
  rename Fr _ _ _ _ => F1
  replace F1 : Fr _ _ _ (fun y => List.lookup y [(PySem.Str.ofString "thing", (.bytes bb tt))]) := F1
  k_steps
  unfold Stop
  refine' con_use parse_bad_byt ?b F1 ?x N' ?t rfl (fun _ h => h) ?hd ?hu ?rt ?ex
  case b => assumption
  case x => assumption
  case t => assumption
  case hd => ((try simp only [depth_deeper, ktrTop]); omega)
  case hu => ((try simp only [units_deeper, ktrTop]); omega)
  case rt =>
    intro r news' h8 tk8 F8 N8 hf
    exact hf.elim
  case ex =>
    intro cls hc e g8 h8 tk8 R8 F8 U8
    subst hc
    refine' caught_X R8 F8 ?b U8 XB TB D' ?e ?q ?_
    case b => assumption
    case e => k_is
    case q => kts_isx
    intro h9 g9 T9 F9 B9 X9 P9 D9
    k_steps
    refine leaveR_mk T9 F9 News.nil fun h1 a0 a1 a2 a3 a4 a5 a6 a7 => ret _ _ _ _ _ a0 a1 a2 a3 a4 a5 a6 a7 rfl
end Mine
end
/-! NzPool -/
section
open PySem PySem.W PySem.Spec PySem.Calls PyProof.Rows
namespace Mine
theorem word_NzPool_0 : True := by
  k_with_none
  w_top off
  trivial
set_option maxRecDepth 100000
set_option maxHeartbeats 8000000
set_option linter.all false
theorem fill_pool : (fun (_ : PySem.W.OpenLaw) (_ : Params → Frag) => True) PySem.Challenge.rw_nz0213_01 hd.heap_1 := by
  k_fill
  trivial

theorem list_inv {prog : Program} {w : World} {A : Around} {E : Value → Shared → Prop} {s : Shared} {env : Env} {h₀ : Heap} {x : Str} {body : List Stmt} {Q : Flow → Shared → Prop} {L : Addr} (hL : env.locals = L) {l : Addr} {vs : List Value} {ns : List Int} {nn : Nat} {m₀ : Str → Option Value} {news : List (Addr × Obj)} (J : (Str → Option Value) → Prop)
    (hh : A.handled = none) (hi : IntsAre vs ns) (F : Fr h₀ L s.heap m₀) (N : News h₀ L s.heap news) (hl : (l, listOf vs.toArray nn) ∈ news) (hj : J m₀)
    (turn : ∀ n t m₁ h tk own, J m₁ → Fr h₀ L h (fun y => if y = x then some (.int n t) else m₁ y) → News h₀ L h (own ++ news) →
      ∀ R : Flow → Shared → Prop, (∀ h' tk' m', Fr h₀ L h' m' → News h₀ L h' (own ++ news) → J m' → R .next { s with heap := h', toks := tk' }) →
      wpAny (model prog w) A (execs body env) R E { s with heap := h, toks := tk })
    (done : ∀ m₁ h tk, J m₁ → Fr h₀ L h m₁ → News h₀ L h news → Q .next { s with heap := h, toks := tk }) :
    wpAny (model prog w) A (pyIter (.ref l)) (fun it s₂ => LoopAtV prog w A h₀ env x body Q E it s₂) E s := by
  subst hL
  refine iter_invNL (fun _ m nx => nx = news ∧ J m) hh hl hi F N ⟨rfl, hj⟩ ?_ ?_
  · rintro i n t m₁ nx h tk own hn _ hoff hmem ⟨rfl, hJ⟩ F₁ N₁
    refine turn n t m₁ h tk own hJ F₁ (fun p hp => N₁ p (List.mem_append.mpr (List.mem_append.mp hp).symm)) _ fun h' tk' m' F' N' hJ' => ?_
    exact ⟨h', tk', m', _, _, rfl, F', N', fun p hp => List.mem_append_right _ hp, fun p hp => List.mem_append_left _ hp, rfl, hmem, rfl, hJ'⟩
  · rintro m₁ nx h tk _ ⟨rfl, hJ⟩ F₁ N₁
    exact done m₁ h tk hJ F₁ N₁
theorem news_mid {h₀ h : Heap} {L : Addr} {a b : Addr × Obj} {zs : List (Addr × Obj)} (N : News h₀ L h (a :: b :: zs)) : News h₀ L h (a :: zs) := fun p hp => N p ((List.mem_cons.mp hp).elim (fun h => h ▸ .head _) (fun h => .tail _ (.tail _ h)))
theorem if2b {a b : Str} {A B B' A' : Option Value} {f : Str → Option Value} : (fun y => if y = a then A else if y = b then B else if y = a then A' else if y = b then B' else f y) = fun y => if y = a then A else if y = b then B else f y := by
  funext y
  by_cases h1 : y = a
  · simp only [h1, if_true]
  · by_cases h2 : y = b
    · simp only [h1, h2, if_true, if_false]
    · simp only [h1, h2, if_false]
theorem if2c {a b : Str} {A : Option Value} {l : List (Str × Value)} (h : List.lookup b l = none) : (fun y => if y = a then A else List.lookup y l) = fun y => if y = a then A else if y = b then none else List.lookup y l := by
  funext y
  by_cases h1 : y = a
  · simp only [h1, if_true]
  · by_cases h2 : y = b
    · subst h2; simp only [h1, if_true, if_false, h]
    · simp only [h1, h2, if_false]
theorem word_NzPool_1 : True := by
  k_with "my exec For" => refine stop_here ?_
  trivial
theorem word_NzPool_2 : True := by
  k_with "my pyIter ref" => refine stop_here ?_
  trivial
theorem pool_call {w : World} {mean : ExcName → Option Value} {mg mb : Str → Option Value} {ls : Addr} {vs : List Value} {ns : List Int} (hi : IntsAre vs ns) (hlen : ns.length ≤ 63)
    {dp un : Nat} {gd : Option (List Code)} {cn : Str} {cs : Scope} {a : Addr} {ccd : Value} {cl : List (Str × Addr)} {outer : List Env} {A₀ : Around} {base h₀ : Heap} {L : Addr} {m : Str → Option Value} {s : Shared} {zs : List (Addr × Obj)}
    {Q E : Value → Shared → Prop} (hL : h₀.IsList ls vs.toArray)
    (B : Below A₀ base outer h₀) (F : Fr h₀ L s.heap m) (X : (hd.heap_1 w.params).In h₀) (N : News h₀ L s.heap zs) (TT : TopW mean mg mb h₀) (hk : cs.kind = .function) (hdp : dp + 5 < recursionLimit) (hun : un + 40 < cLine)
    (ret : ∀ (lp : Addr) (pa pb : Int) (ta tb : Tok) (n : Nat) h' tk', Fr h₀ L h' m → News h₀ L h' ((lp, poolO pa pb ta tb n) :: zs) → PoolOk pa pb → (∀ q ∈ zs, q.1 ≠ lp) → Q (.ref lp) { s with heap := h', toks := tk' }) :
    wpAny (model Pg w) (ktrTop dp un gd cn cs L a ccd cl outer) (call (.ref 269) [.ref ls]) Q E s := by
  refine wpAny_call ?_
  k_dflt ktr_enter
  rename Fr h₀ L _ m => FG
  have hL' := hL.at fun o e => Fr.keep FG ls o e
  rename Fr _ _ _ _ => F1
  replace F1 : Fr _ _ _ (fun y => List.lookup y [(PySem.Str.ofString "script", .ref ls)]) := F1
  k_steps
  rename Fr _ _ _ _ => F0
  unfold Stop
  refine For_invVF F0 (by rfl) (by rfl) ?_
  k_steps
  unfold Stop
  rename Fr _ _ _ _ => F2
  rename News _ _ _ _ => N2
  rename IntsAre _ (List.take _ _) => hI
  refine' list_inv ?hL (fun m => ∃ (pa : Int) (ta : Tok) (o : Option Value), m = (fun y => if y = PySem.Str.ofString "whole" then some (Value.int pa ta) else if y = PySem.Str.ofString "cell" then o else List.lookup y [(PySem.Str.ofString "script", .ref ls)]) ∧ 0 ≤ pa ∧ pa < 10 ^ 90) rfl hI F2 N2 (.head _) ?h0 ?tn ?dn
  case hL => exact rfl
  case h0 => exact ⟨_, _, none, if2c rfl, by decide, by decide⟩
  case tn =>
    clear F2 N2
    rintro n t m₁ h tk own ⟨pa, ta, o, e0, p1, p2⟩ F3 N3 R9 IH
    subst e0
    k_steps
    rename Fr _ _ _ _ => F9
    rename News _ _ _ _ => N9
    exact IH _ _ _ F9 N9 ⟨_, _, _, if2b, (fmodB (by decide)).1, (fmodB (by decide)).2⟩
  case dn =>
    clear F2 N2
    rintro m₁ h tk ⟨pa, ta, o, e0, p1, p2⟩ F3 N3
    subst e0
    k_steps
    rename News h₀ L _ _ => N9
    rename (_ ∧ AllLt _ zs) => l9
    exact ret _ _ _ _ _ _ _ _ (by assumption) (news_mid N9) ⟨p1, p2, (fmodB (by decide)).1, (fmodB (by decide)).2⟩ (fun q hq => Nat.ne_of_lt (ktn_ltOf l9.2 q hq))
end Mine
end
/-! NzLit -/
section
open PySem PySem.W PySem.Spec PySem.Calls PyProof.Rows
namespace Mine
set_option maxRecDepth 100000
set_option maxHeartbeats 8000000
set_option linter.all false

def litT : Str := PySem.Str.ofString "a\tb\u000b<\u000df"
def litM : List Str := [PySem.Str.ofString "a", PySem.Str.ofString "b", PySem.Str.ofString "<", PySem.Str.ofString "f"]
def litD : Dat := .tuple [.str (PySem.Str.ofString "lead"), .tuple [.str (PySem.Str.ofString "run"), .list [.str (PySem.Str.ofString "a"), .str (PySem.Str.ofString "b")]], .str (PySem.Str.ofString "f"), .int 0, .int 0]
theorem mark_w {x : Str} (h : (!isSgn x && !x.cps.toList.isEmpty && x.cps.toList.all isWd && decide (x.length ≤ 3) && PyData.strOk x) = true) : MarkOk x := by
  simp only [Bool.and_eq_true, Bool.not_eq_true', decide_eq_true_eq] at h
  obtain ⟨⟨⟨⟨h1, h2⟩, h3⟩, h4⟩, h5⟩ := h
  have h2' : x.cps.toList ≠ [] := by intro z; rw [z] at h2; cases h2
  exact ⟨.inr ⟨h1, h2', fun c hc => List.all_eq_true.mp h3 c hc⟩, h4, h5⟩
theorem mark_s {x : Str} (h : (isSgn x && decide (x.length ≤ 3) && PyData.strOk x) = true) : MarkOk x := by
  simp only [Bool.and_eq_true, decide_eq_true_eq] at h
  obtain ⟨⟨h1, h4⟩, h5⟩ := h
  exact ⟨.inl h1, h4, h5⟩
theorem markB {x : Str} (h : ((!isSgn x && !x.cps.toList.isEmpty && x.cps.toList.all isWd && decide (x.length ≤ 3) && PyData.strOk x) || (isSgn x && decide (x.length ≤ 3) && PyData.strOk x)) = true) : MarkOk x := by
  rcases (Bool.or_eq_true _ _).mp h with h | h
  · exact mark_w h
  · exact mark_s h
theorem litM_ok : ∀ m ∈ litM, MarkOk m := by
  unfold litM
  exact List.forall_mem_cons.mpr ⟨mark_w (by decide +kernel), List.forall_mem_cons.mpr ⟨mark_w (by decide +kernel), List.forall_mem_cons.mpr ⟨mark_s (by decide +kernel), List.forall_mem_cons.mpr ⟨mark_w (by decide +kernel), List.forall_mem_nil _⟩⟩⟩⟩
theorem bl1 {c : Nat} (h : isBl c = true) : Blank [c] := fun x hx => by rw [List.mem_singleton.mp hx]; exact h
theorem lit_spr : Spr litM litT := by
  have h1 : Wd [PySem.Str.ofString "a"] ([] ++ (PySem.Str.ofString "a").cps.toList) := .one fun _ h => absurd h List.not_mem_nil
  have h2 := Wd.snoc (pre := []) (a := PySem.Str.ofString "a") (m := PySem.Str.ofString "b") (g := [9]) h1 (bl1 rfl) (fun _ z => by cases z)
  have h3 := Wd.snoc (pre := [PySem.Str.ofString "a"]) (a := PySem.Str.ofString "b") (m := PySem.Str.ofString "<") (g := [11]) h2 (bl1 rfl) (fun _ z => by cases z)
  have h4 := Wd.snoc (pre := [PySem.Str.ofString "a", PySem.Str.ofString "b"]) (a := PySem.Str.ofString "<") (m := PySem.Str.ofString "f") (g := [13]) h3 (bl1 rfl) (fun _ z => by cases z)
  exact ⟨_, [], h4, fun _ h => absurd h List.not_mem_nil, by decide +kernel⟩
theorem litT_len : litT.length ≤ 1000 := by decide +kernel
theorem lit_rd : rdOf (litM.map tkOf) = litD := by kernel_rfl
theorem lit_ok : kqdOk 16 litD = true := by decide +kernel
theorem read_lit {w : World} {mean : ExcName → Option Value} {mg mb : Str → Option Value} {tt : Tok} {news : List (Addr × Obj)} : ConR w mean mg mb 290 [.str litT tt] news 96 768 (fun r new => DatIn new r litD) := by
  have h := read_marks (w := w) (mean := mean) (mg := mg) (mb := mb) (tt := tt) (news := news) litT_len lit_spr litM_ok (by decide)
  rw [lit_rd] at h
  exact h
theorem conS_use {w : World} {mean : ExcName → Option Value} {mg mb : Str → Option Value} {f : Addr} {args : List Value} {news news0 : List (Addr × Obj)} {nd nu : Nat} {Post : Value → List (Addr × Obj) → Prop} (C : ConS w mean mg mb f args news nd nu Post)
    {dp un : Nat} {gd : Option (List Code)} {cn : Str} {cs : Scope} {a : Addr} {ccd : Value} {A₀ : Around} {base h₀ : Heap} {L : Addr} {m : Str → Option Value} {s : Shared} {Q E : Value → Shared → Prop}
    (B : Below A₀ base [] h₀) (F : Fr h₀ L s.heap m) (X : (hd.heap_1 w.params).In h₀) (N : News h₀ L s.heap news0) (hsub : ∀ p ∈ news, p ∈ news0) (T : TopW mean mg mb h₀) (hk : cs.kind = .function) (hdp : dp + nd < recursionLimit) (hun : un + nu < cLine)
    (XB : (hd.heap_1 w.params).In base) (TB : TopW mean mg mb base)
    (ret : ∀ r news' h' tk', Fr h₀ L h' m → News h₀ L h' news' → Post r news' → Q r { s with heap := h', toks := tk' }) :
    wpAny (model Pg w) (ktrTop dp un gd cn cs L a ccd [] []) (call (.ref f) args) Q E s :=
  C dp un gd cn cs a ccd A₀ base h₀ L m s Q E B F X (fun p hp => N p (hsub p hp)) T hk hdp hun XB TB ret
end Mine
end
/-! NzLaw -/
section
open PySem PySem.W PySem.Spec PySem.Calls PyProof.Rows
namespace Mine
theorem word_NzLaw_0 : True := by
  k_with_none
  w_top off
  trivial
set_option maxRecDepth 100000
set_option maxHeartbeats 8000000
set_option linter.all false
theorem fill_law : (fun (_ : PySem.W.OpenLaw) (_ : Params → Frag) => True) PySem.Challenge.rw_nz0213_01 hd.heap_1 := by
  k_fill
  trivial
theorem word_NzLaw_1 : True := by
  k_with "my call ref" => ((show wpAny _ _ (call (Value.ref 276) _ _) _ _ _); refine stop_here ?_)
  trivial

theorem con_sub {w : World} {mean : ExcName → Option Value} {mg mb : Str → Option Value} {f : Addr} {args : List Value} {news news0 : List (Addr × Obj)} {nd nu : Nat}
    {Post : Value → List (Addr × Obj) → Prop} {Exc : Value → Prop} (C : Con w mean mg mb f args news nd nu Post Exc) (h : ∀ p ∈ news, p ∈ news0) : Con w mean mg mb f args news0 nd nu Post Exc :=
  fun dp un gd cn cs a ccd cl outer A₀ base h₀ L m s Q E B F X N => C dp un gd cn cs a ccd cl outer A₀ base h₀ L m s Q E B F X fun p hp => N p (h p hp)
theorem mem_swap {a b : Addr × Obj} {zs : List (Addr × Obj)} : ∀ p ∈ a :: b :: zs, p ∈ b :: a :: zs := fun p hp => by
  rcases List.mem_cons.mp hp with rfl | hp
  · exact .tail _ (.head _)
  · rcases List.mem_cons.mp hp with rfl | hp
    · exact .head _
    · exact .tail _ (.tail _ hp)
theorem take_con2 {w : World} {mean : ExcName → Option Value} {mg mb : Str → Option Value} {lp : Addr} {pa pb many : Int} {ta tb tm : Tok} {n : Nat} {x : Addr × Obj} {zs : List (Addr × Obj)} (hz : ∀ q ∈ x :: zs, q.1 ≠ lp) (ha0 : 0 ≤ pa) (ha1 : pa < 10 ^ 90) (hb0 : 0 ≤ pb) (hb1 : pb < 2147483647) (hm1 : 1 ≤ many) (hm2 : many ≤ 12) :
    Con w mean mg mb 276 [.ref lp, .int many tm] (x :: (lp, poolO pa pb ta tb n) :: zs) 2 16
      (fun r news' => ∃ (q a' b' : Int) (tq ta' tb' : Tok), r = .int q tq ∧ news' = x :: (lp, poolO a' b' ta' tb' n) :: zs ∧ (0 ≤ q ∧ q < many) ∧ PoolOk a' b') NoExc :=
  con_mono (con_sub (take_con hz ha0 ha1 hb0 hb1 hm1 hm2) mem_swap) (Nat.le_refl _) (Nat.le_refl _) (fun r nn ⟨q, a', b', tq, ta', tb', hr, hn, h1, h2⟩ => ⟨_, fun p hp => by rw [hn]; exact mem_swap p hp, q, a', b', tq, ta', tb', hr, rfl, h1, h2⟩) fun _ h => h
theorem if2n {a b : Str} {f : Str → Option Value} (ha : f a = none) (hb : f b = none) : f = fun y => if y = a then none else if y = b then none else f y := by
  funext y
  by_cases h1 : y = a
  · rw [if_pos h1, h1, ha]
  · by_cases h2 : y = b
    · rw [if_neg h1, if_pos h2, h2, hb]
    · rw [if_neg h1, if_neg h2]
theorem word_NzLaw_2 : True := by
  k_with "my call ref" => (k_here; (with_reducible show wpAny _ _ (call (Value.ref 276) _ _) _ _ _); k_dflt (refine con_go (by k_asm) (by exact fun _ hp => hp) (by k_asm) (by k_asm) (by k_asm) (by k_asm) (by exact rfl) (take_con2 (by ((repeat (refine List.forall_mem_cons.mpr ⟨by first | assumption | exact Ne.symm (by assumption) | k_ne, ?_⟩)); exact List.forall_mem_nil _)) (by assumption) (by assumption) (by assumption) (by assumption) (by first | omega | decide) (by first | omega | decide)) (by decide) (by decide) (by exact fun _ hc => hc.elim) ?_; intro r9 news9 h9 tk9 F9 N9 hP9; refine Exists.elim hP9 ?_; clear hP9; intro q9 hP9; refine Exists.elim hP9 ?_; clear hP9; intro pa9 hP9; refine Exists.elim hP9 ?_; clear hP9; intro pb9 hP9; refine Exists.elim hP9 ?_; clear hP9; intro tq9 hP9; refine Exists.elim hP9 ?_; clear hP9; intro ta9 hP9; refine Exists.elim hP9 ?_; clear hP9; intro tb9 hP9; refine And.elim ?_ hP9; clear hP9; intro hr9 hP9; refine And.elim ?_ hP9; clear hP9; intro hn9 hP9; subst hr9; subst hn9; refine And.elim ?_ hP9; clear hP9; intro hq9 hP9; refine And.elim ?_ hq9; clear hq9; intro hq9 hqq9; unfold PoolOk at hP9; refine And.elim ?_ hP9; clear hP9; intro hpa9 hP9; refine And.elim ?_ hP9; clear hP9; intro hpb9 hP9; refine And.elim ?_ hP9; clear hP9; intro hpc9 hP9; (try k_sweep); (try dsimp only); (try k_fold)))
  trivial
theorem word_NzLaw_3 : True := by
  k_with "my call ref" => ((show wpAny _ _ (call (Value.ref 269) _ _) _ _ _); refine stop_here ?_)
  trivial
theorem word_NzLaw_4 : True := by
  k_with "my call ref" => ((show wpAny _ _ (call (Value.ref 290) _ _) _ _ _); refine stop_here ?_)
  trivial
theorem word_NzLaw_5 : True := by
  k_with "my call ref" => ((show wpAny _ _ (call (Value.ref 325) _ _) _ _ _); refine stop_here ?_)
  trivial
theorem word_NzLaw_6 : True := by
  k_with "my call ref" => ((show wpAny _ _ (call (Value.ref 318) _ _) _ _ _); refine stop_here ?_)
  trivial
local macro_rules | `(tactic| k_qdec) => `(tactic| decide +kernel)
theorem word_NzLaw_7 : True := by
  k_with "my execs cons Assign cons" => ((with_reducible refine wpAny_execs_cons ?_); try dsimp only)
  trivial
theorem word_NzLaw_8 : True := by
  k_with "my exec For" => refine stop_here ?_
  trivial
theorem word_NzLaw_9 : True := by
  k_with "my pyIter ref" => refine stop_here ?_
  trivial
theorem if1n {a : Str} {f : Str → Option Value} (ha : f a = none) : f = fun y => if y = a then none else f y := by
  funext y
  by_cases h1 : y = a
  · rw [if_pos h1, h1, ha]
  · rw [if_neg h1]
theorem ifOne {a : Str} {A A' : Option Value} {f : Str → Option Value} : (fun y => if y = a then A else if y = a then A' else f y) = fun y => if y = a then A else f y := by
  funext y
  by_cases h1 : y = a
  · simp only [h1, if_true]
  · simp only [h1, if_false]
theorem tab12_ok {k : Nat} (h : k < 12) : MarkOk ([PySem.Str.ofString "a", PySem.Str.ofString "bc", PySem.Str.ofString "d", PySem.Str.ofString "e.f", PySem.Str.ofString "|", PySem.Str.ofString ";", PySem.Str.ofString "&", PySem.Str.ofString "(", PySem.Str.ofString ")", PySem.Str.ofString "<", PySem.Str.ofString ">", PySem.Str.ofString ">>"].getD k Str.empty) := by
  refine markB ?_
  revert k
  decide +kernel
theorem mark_a : MarkOk (PySem.Str.ofString "a") := mark_w (by decide +kernel)
theorem name_it {P : Prop} {G : Heap} {x : Addr} {V : Array Value} (_ : Heap.IsList G x V) (k : ∀ y : Addr, y = x → P) : P := k x rfl
theorem name_it2 {P : Prop} {G h : Heap} {L x : Addr} {o : Obj} {zs : List (Addr × Obj)} (_ : News G L h ((x, o) :: zs)) (k : ∀ y : Addr, y = x → P) : P := k x rfl
theorem law_all : PySem.Challenge.rw_nz0213_01.Holds := by
  refine hd ?_
  k_go0
  all_goals try k_fold
  k_steps
  unfold Stop
  rename IntsAre _ _ => hi
  rename (¬ ((63 : Int) < _)) => hlen
  rename Fr _ _ _ _ => F0
  rename News _ _ _ [] => N0
  rename Below _ _ _ _ => B0
  rename Frag.In _ _ => X0
  rename Heap.IsList _ _ _ => hL0
  refine name_it hL0 fun ls els => ?_
  subst els
  refine' pool_call hi (by omega) hL0 B0 F0 X0 N0 ?tt rfl ?hd ?hu ?rt
  case tt => assumption
  case hd => ((try simp only [depth_deeper, ktrTop]); decide)
  case hu => ((try simp only [units_deeper, ktrTop]); decide)
  case rt =>
  clear F0 N0
  rintro lp pa pb ta tb n h1 tk1 F1 N1 ⟨p1, p2, p3, p4⟩ _
  k_steps
  unfold Stop
  rename Fr _ _ _ _ => F2
  rename News _ _ _ _ => N2
  refine' conS_use (conS_of (read_lit (tt := _))) B0 F2 X0 N2 (fun _ h => h) ?t2 rfl ?hd2 ?hu2 X0 ?tb2 ?rt2
  case t2 => assumption
  case tb2 => assumption
  case hd2 => ((try simp only [depth_deeper, ktrTop]); decide)
  case hu2 => ((try simp only [units_deeper, ktrTop]); decide)
  case rt2 =>
  clear F2 N2
  rintro r2 news2 h2 tk2 F3 N3 ⟨new2, e2, _, d2⟩
  subst e2
  k_steps
  rename Fr _ _ _ _ => F4
  rename News _ _ _ _ => N4
  refine' ne_dat (n := 16) N4 d2 (fun _ h => .tail _ (.tail _ (.tail _ (List.mem_append_left _ h)))) (.tuple (.head _) ?dd) (fun _ h => h) lit_ok (by decide) ?hu4 ?rt4
  case dd => exact .cons (.str _ _) (.cons (.tuple (.tail _ (.head _)) (.cons (.str _ _) (.cons (.list (.tail _ (.tail _ (.head _))) (.cons (.str _ _) (.cons (.str _ _) .nil))) .nil))) (.cons (.str _ _) (.cons (.int _ _) (.cons (.int _ _) .nil))))
  case hu4 => ((try simp only [units_deeper, ktrTop]); decide)
  case rt4 =>
  have N5 : News _ _ _ [(lp, poolO pa pb ta tb n)] := fun p hp => N4 p (.tail _ (.tail _ (.tail _ (List.mem_append_right _ hp))))
  clear N4
  k_steps
  unfold Stop
  refine' conS_use (conS_of refused_none) B0 F4 X0 N5 (fun _ h => h) ?t5 rfl ?hd5 ?hu5 X0 ?tb5 ?rt5
  case t5 => assumption
  case tb5 => assumption
  case hd5 => ((try simp only [depth_deeper, ktrTop]); decide)
  case hu5 => ((try simp only [units_deeper, ktrTop]); decide)
  case rt5 =>
  clear F4 N5
  rintro r5 news5 h5 tk5 F5 N5 ⟨new5, e5, _, d5⟩
  subst e5 d5
  replace N5 : News _ _ _ [(lp, poolO pa pb ta tb n)] := fun p hp => N5 p (List.mem_append_right _ hp)
  k_steps
  unfold Stop
  rename Fr _ _ _ _ => F6
  rename News _ _ _ _ => N6
  refine' conS_use (conS_of refused_byt) B0 F6 X0 N6 (fun _ h => h) ?t6 rfl ?hd6 ?hu6 X0 ?tb6 ?rt6
  case t6 => assumption
  case tb6 => assumption
  case hd6 => ((try simp only [depth_deeper, ktrTop]); decide)
  case hu6 => ((try simp only [units_deeper, ktrTop]); decide)
  case rt6 =>
  clear F6 N6
  rintro r6 news6 h6 tk6 F6 N6 ⟨new6, e6, _, d6⟩
  subst e6 d6
  replace N6 : News _ _ _ [(lp, poolO pa pb ta tb n)] := fun p hp => N6 p (List.mem_append_right _ hp)
  k_steps
  unfold Stop
  rename IsRange _ _ _ _ _ _ _ _ => R7
  rename Fr _ _ _ _ => F7
  rename News _ _ _ _ => N7
  refine name_it2 N7 fun lm elm => ?_
  subst elm
  rename (@LT.lt Nat _ lp lm) => hlt7
  replace F7 : Fr _ _ _ (fun y => if y = PySem.Str.ofString "marks" then some (Value.ref lm) else if y = PySem.Str.ofString "pool" then some (Value.ref lp) else List.lookup y [(PySem.Str.ofString "script", .ref ls)]) := F7
  have hne7 : @Ne Nat lm lp := Nat.ne_of_gt hlt7
  refine' range_inv ?hL rfl R7 (by (split <;> omega)) (by (split <;> omega)) F7 (fun p hp => N7 p (mem_swap p hp)) (fun i m news => ∃ (o1 o2 : Option Value) (a' b' : Int) (ta' tb' : Tok) (vs : List Value) (ms : List Str) (nm : Nat),
    m = (fun y => if y = PySem.Str.ofString "mark" then o1 else if y = PySem.Str.ofString "turn" then o2 else if y = PySem.Str.ofString "marks" then some (Value.ref lm) else if y = PySem.Str.ofString "pool" then some (Value.ref lp) else List.lookup y [(PySem.Str.ofString "script", .ref ls)]) ∧
    news = [(lp, poolO a' b' ta' tb' n), (lm, listOf vs.toArray nm)] ∧ PoolOk a' b' ∧ StrsAre vs ms ∧ ms.length = i ∧ ∀ m ∈ ms, MarkOk m) ?h0 ?tn ?dn
  case hL => exact rfl
  case h0 => exact ⟨none, none, _, _, _, _, [], [], _, if2n rfl rfl, rfl, ⟨p1, p2, p3, p4⟩, .nil, rfl, fun _ h => absurd h List.not_mem_nil⟩
  case tn =>
    clear F7 N7
    rintro i m₁ news₁ h tk t I it hi hoff ⟨o1, o2, a', b', ta', tb', vs, ms, nm, e0, e1, ⟨p1, p2, p3, p4⟩, hv, hml, hmk⟩ F1 N1 R9 IH
    subst e0 e1
    have hIl : @Ne Nat lp I := hoff _ (.head _)
    have hIm : @Ne Nat lm I := hoff _ (.tail _ (.head _))
    replace N1 : News _ _ _ ((lp, poolO a' b' ta' tb' n) :: (I, it) :: (lm, listOf vs.toArray nm) :: []) := N1
    try dsimp only at F1
    k_steps
    all_goals (rename Fr _ _ _ _ => F9; rename News _ _ _ _ => N9; rename StrsAre _ _ => hv9; rw [List.push_toArray] at N9; refine IH _ _ _ [(lp, poolO _ _ _ _ n), (lm, listOf _ _)] F9 (fun p hp => N9 p (.tail _ hp)) (List.forall_mem_cons.mpr ⟨hIl, List.forall_mem_cons.mpr ⟨hIm, List.forall_mem_nil _⟩⟩) ⟨_, _, _, _, _, _, _, _, _, if2, rfl, ⟨by assumption, by assumption, by assumption, by assumption⟩, strs_app hv9, by rw [List.length_append, List.length_singleton, hml], fun x hx => (List.mem_append.mp hx).elim (hmk x) fun hx => by rw [List.mem_singleton.mp hx]; first | exact tab12_ok (by omega) | exact mark_a⟩)
  case dn =>
    clear F7 N7
    rintro m₁ news₁ h tk ⟨o1, o2, a', b', ta', tb', vs, ms, nm, e0, e1, ⟨p1, p2, p3, p4⟩, hv, hml, hmk⟩ F1 N1
    subst e0 e1
    have hlm : 3 ≤ ms.length ∧ ms.length ≤ 14 := by rw [hml]; split <;> omega
    k_steps
    unfold Stop
    rename IsRange _ _ _ _ _ _ _ _ => R8
    rename Fr _ _ _ _ => F8
    rename News _ _ _ _ => N8
    refine name_it2 N8 fun lx elx => ?_
    subst elx
    rename (@LT.lt Nat _ lp lx ∧ _) => hlt8
    have hne8 : @Ne Nat lx lp := Nat.ne_of_gt hlt8.1
    replace F8 : Fr _ _ _ (fun y => if y = PySem.Str.ofString "mixed" then some (Value.ref lx) else if y = PySem.Str.ofString "mark" then o1 else if y = PySem.Str.ofString "turn" then o2 else if y = PySem.Str.ofString "marks" then some (Value.ref lm) else if y = PySem.Str.ofString "pool" then some (Value.ref lp) else List.lookup y [(PySem.Str.ofString "script", .ref ls)]) := F8
    refine' range_inv ?hL2 rfl R8 (by (split <;> omega)) (by (split <;> omega)) F8 (fun p hp => N8 p (mem_swap p hp)) (fun i m news => ∃ (o3 : Option Value) (a' b' : Int) (ta' tb' : Tok) (xs : List Value) (mx : List Str) (nx : Nat),
      m = (fun y => if y = PySem.Str.ofString "at" then o3 else if y = PySem.Str.ofString "mixed" then some (Value.ref lx) else if y = PySem.Str.ofString "mark" then o1 else if y = PySem.Str.ofString "turn" then o2 else if y = PySem.Str.ofString "marks" then some (Value.ref lm) else if y = PySem.Str.ofString "pool" then some (Value.ref lp) else List.lookup y [(PySem.Str.ofString "script", .ref ls)]) ∧
      news = [(lp, poolO a' b' ta' tb' n), (lx, listOf xs.toArray nx), (lm, listOf vs.toArray nm)] ∧ PoolOk a' b' ∧ StrsAre xs mx ∧ mx.length = i ∧ ∀ m ∈ mx, MarkOk m) ?h2 ?tn2 ?dn2
    case hL2 => exact rfl
    case h2 => exact ⟨none, _, _, _, _, [], [], _, if1n rfl, rfl, ⟨p1, p2, p3, p4⟩, .nil, rfl, fun _ h => absurd h List.not_mem_nil⟩
    case tn2 =>
      clear F8 N8 p1 p2 p3 p4
      rintro i m₁ news₁ h tk t I it hi hoff ⟨o3, a', b', ta', tb', xs, mx, nx, e0, e1, ⟨p1, p2, p3, p4⟩, hxv, hml2, hmk2⟩ F1 N1 R9 IH
      subst e0 e1
      have hIl : @Ne Nat lp I := hoff _ (.head _)
      have hIx : @Ne Nat lx I := hoff _ (.tail _ (.head _))
      have hIm : @Ne Nat lm I := hoff _ (.tail _ (.tail _ (.head _)))
      replace N1 : News _ _ _ ((lp, poolO a' b' ta' tb' n) :: (I, it) :: (lx, listOf xs.toArray nx) :: (lm, listOf vs.toArray nm) :: []) := N1
      try dsimp only at F1
      have hi2 : (i : Int) ≤ 12 := by revert hi; split <;> omega
      k_steps
      all_goals (rename Fr _ _ _ _ => F9; rename News _ _ _ _ => N9; rw [List.push_toArray] at N9; refine IH _ _ _ [(lp, poolO _ _ _ _ n), (lx, listOf _ _), (lm, listOf vs.toArray nm)] F9 (fun p hp => N9 p (.tail _ hp)) (List.forall_mem_cons.mpr ⟨hIl, List.forall_mem_cons.mpr ⟨hIx, List.forall_mem_cons.mpr ⟨hIm, List.forall_mem_nil _⟩⟩⟩) ⟨_, _, _, _, _, _, _, _, ifOne, rfl, ⟨by assumption, by assumption, by assumption, by assumption⟩, strs_app hxv, by rw [List.length_append, List.length_singleton, hml2], fun x hx => (List.mem_append.mp hx).elim (hmk2 x) fun hx => by rw [List.mem_singleton.mp hx]; first | exact mark_w (by decide +kernel) | exact mark_s (by decide +kernel)⟩)
    case dn2 =>
      clear F8 N8 p1 p2 p3 p4
      rintro m₁ news₁ h tk ⟨o3, a', b', ta', tb', xs, mx, nx, e0, e1, ⟨p1, p2, p3, p4⟩, hxv, hml2, hmk2⟩ F1 N1
      subst e0 e1
      have hlx : 2 ≤ mx.length ∧ mx.length ≤ 14 := by rw [hml2]; split <;> omega
      k_steps
      unfold Stop
      rename Fr _ _ _ _ => F9
      rename News _ _ _ _ => N9
      refine' conS_use (right_con hv hlm.2 (fun z => by rw [z] at hlm; exact absurd hlm.1 (by decide)) hmk hne7 (zs := [(lx, listOf xs.toArray nx)]) ?z9 p1 p2 p3 p4) B0 F9 X0 N9 (fun p hp => (List.mem_cons.mp hp).elim (fun h => h ▸ .head _) fun hp => .tail _ (mem_swap p hp)) ?t9 rfl ?hd9 ?hu9 X0 ?tb9 ?rt9
      case z9 => exact List.forall_mem_cons.mpr ⟨hne8, List.forall_mem_nil _⟩
      case t9 => assumption
      case tb9 => assumption
      case hd9 => decide
      case hu9 => decide
      case rt9 =>
      clear F9 N9 p1 p2 p3 p4
      rintro r9 news9 h9 tk9 F9 N9 ⟨a9, b9, ta9, tb9, e9, e8, ⟨p1, p2, p3, p4⟩⟩
      subst e9 e8
      k_steps
      unfold Stop
      refine' conS_use (right_con hxv hlx.2 (fun z => by rw [z] at hlx; exact absurd hlx.1 (by decide)) hmk2 hne8 (zs := [(lm, listOf vs.toArray nm)]) ?z10 p1 p2 p3 p4) B0 F9 X0 N9 (fun p hp => (List.mem_cons.mp hp).elim (fun h => h ▸ .head _) fun hp => .tail _ (mem_swap p hp)) ?t10 rfl ?hd10 ?hu10 X0 ?tb10 ?rt10
      case z10 => exact List.forall_mem_cons.mpr ⟨hne7, List.forall_mem_nil _⟩
      case t10 => assumption
      case tb10 => assumption
      case hd10 => decide
      case hu10 => decide
      case rt10 =>
      clear F9 N9 p1 p2 p3 p4
      rintro r9 news9 h9 tk9 F9 N9 ⟨a9, b9, ta9, tb9, e9, e8, _⟩
      subst e9 e8
      k_steps
end Mine
end
end
theorem PySem.Challenge.cw_nz0213_01_holds : PySem.Challenge.rw_nz0213_01.Holds :=
  Mine.law_all
