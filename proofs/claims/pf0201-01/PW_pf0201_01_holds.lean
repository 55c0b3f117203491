import PyProof.Rows.All
import Wide.All
import OpenK.AllK
import Wide.FinOn
import Lean
import PySem.Challenge.RW_pf0201_01
set_option Elab.async false
set_option maxRecDepth 100000
set_option maxHeartbeats 8000000
set_option rowWalk.seconds 0

namespace Mine
open PySem PySem.W PyProof.Rows PySem.Calls

section
open PySem PySem.W PyProof.Rows PySem.Calls
theorem kwH : True := by
  k_with_none
  w_top off
  trivial
noncomputable abbrev prg : Program := PySem.Challenge.rw_pf0201_01.row.prog
/-- the top's run on a heap that is a tree -/
noncomputable def topRunT (tb : String → Option Builtin) (p : Program) (w : World) (n₀ : Nat) (ann : Option Value) : Nat → SharedT → Thread → Option SharedT
  | 0, _, _ => none
  | n + 1, s, t => match through t with
    | true => some s
    | false => match stepOk n₀ ann t with
      | false => none
      | true => match stepT (denote tb) p w s t with
        | some (s', t') => topRunT tb p w n₀ ann n s' t'
        | none => none
theorem topRunT_of {tb : String → Option Builtin} {p : Program} {w : World} {n₀ : Nat} {ann : Option Value} : ∀ {n : Nat} {s s' : SharedT} {t : Thread}, topRunT tb p w n₀ ann n s t = some s' → topRun tb p w n₀ ann n s.abs t = some s'.abs
  | 0, _, _, _, h => by cases h
  | n + 1, s, s', t, h => by
    unfold topRunT at h
    unfold topRun
    cases ht : through t with
    | true => rw [ht] at h; simp only [Option.some.injEq] at h; subst h; rfl
    | false =>
      rw [ht] at h
      cases hk : stepOk n₀ ann t with
      | false => rw [hk] at h; cases h
      | true =>
        rw [hk] at h
        cases hs : stepT (denote tb) p w s t with
        | none => rw [hs] at h; cases h
        | some x =>
          obtain ⟨s₂, t₂⟩ := x
          rw [hs] at h
          show (match step (denote tb) p w s.abs t with | .go s' t' => _ | .halt _ _ => _) = _
          rw [stepT_spec hs]
          exact topRunT_of h
/-- a list of objects as a tree -/
noncomputable def bt (os : Array Obj) (fuel a b : Nat) : BT := match fuel with
  | 0 => .nil
  | fuel + 1 => match os[b]? with
    | some o => .node o (bt os fuel (2 * a) (a + b)) (bt os fuel (2 * a) (2 * a + b))
    | none => .nil
/-- the same run, by the library's quick forms of a step -/
noncomputable def topRunQ (tb : String → Option Builtin) (p : Program) (w : World) (n₀ : Nat) (ann : Option Value) : Nat → SharedT → Thread → Option SharedT
  | 0, _, _ => none
  | n + 1, s, t => match through t with
    | true => some s
    | false => match PySem.W.Fast.tw6613529449190102663 n₀ ann t with
      | false => none
      | true => match PySem.W.Fast.tw10156331382660048174 (PySem.W.Fast.tw11892475500146522536 tb) p w s t with
        | some (s', t') => topRunQ tb p w n₀ ann n s' t'
        | none => none
theorem topRunQ_eq {tb : String → Option Builtin} {p : Program} {w : World} {n₀ : Nat} {ann : Option Value} : ∀ {n : Nat} {s : SharedT} {t : Thread}, topRunQ tb p w n₀ ann n s t = topRunT tb p w n₀ ann n s t
  | 0, _, _ => rfl
  | n + 1, s, t => by
    unfold topRunQ topRunT
    rw [← PySem.W.Fast.te6613529449190102663, ← PySem.W.Fast.te10156331382660048174, ← PySem.W.Fast.te11892475500146522536]
    cases through t <;> simp only []
    cases stepOk n₀ ann t <;> simp only []
    cases stepT (denote tb) p w s t with
    | none => rfl
    | some x => exact topRunQ_eq
noncomputable def s0T (w : World) (os : OsState) : SharedT := ⟨bt (boot_heap w.params).objs 12 1 0, (boot_heap w.params).objs.size, (boot_heap w.params).life, Array.mk [], boot_drawn, boot_toks, os⟩
noncomputable def runQ (p : Program) (w : World) (N : Nat) (os : OsState) : Option SharedT :=
  topRunQ PySem.W.Fast.tw14364793385576792824 p w (boot_heap w.params).objs.size ((boot_heap w.params).nsMap mainGlobals "__annotations__") N (s0T w os) (topStub p)
theorem left_q {p q : Program} {loose : List Str} {Xt : Shared → Bool} {α : Type} {Yf : Shared → α} {Ya : World → α} {N : Nat}
    (o : ∀ w : World, (fencedOpening treeTable p w N).map (fun s => (s.heap, s.gens, s.drawn, s.toks)) = some (boot_heap w.params, Array.mk [], boot_drawn, boot_toks))
    (ht : ∀ w : World, absHeap (bt (boot_heap w.params).objs 12 1 0) (boot_heap w.params).objs.size (boot_heap w.params).life = boot_heap w.params)
    (hz : ∀ w : World, ((boot_heap w.params).isNs mainGlobals && (Array.mk [] : Array GenState).size == 0) = true)
    (h1 : ∀ w : World, (fun os => (runQ p w N os).map (fun s => (staticsOk (importedModules p.main.body) (boot_heap w.params) s.abs.heap && namesBound p s.abs.heap && gensDone s.abs && laidKept (boot_heap w.params) s.abs.heap, PySem.W.Fast.tw4187177175401517315 q loose (importedModules p.main.body) Xt true s.abs))) = fun _ => some (true, openGood q loose))
    (h3 : ∀ w : World, (fun os => (runQ p w N os).map (fun s => Yf s.abs)) = fun _ => some (Ya w)) :
    LeftO p q loose Xt Yf Ya N := fun w => by
  obtain ⟨⟨h0, gs, d, k, os⟩, e, e'⟩ := Option.map_eq_some_iff.mp (o w)
  obtain ⟨rfl, rfl, rfl, rfl⟩ : h0 = boot_heap w.params ∧ gs = Array.mk [] ∧ d = boot_drawn ∧ k = boot_toks := by simpa using e'
  obtain ⟨sT, hr, l12⟩ := Option.map_eq_some_iff.mp (congrFun (h1 w) os)
  obtain ⟨l1, l2⟩ := Prod.mk.inj l12
  have l3 : Yf sT.abs = Ya w := by
    have e2 := congrFun (h3 w) os
    try dsimp only at e2
    rw [hr] at e2
    exact Option.some.inj e2
  unfold runQ at hr
  rw [topRunQ_eq, ← PySem.W.Fast.te14364793385576792824] at hr
  have r := topRunT_of hr
  have ea : (s0T w os).abs = ⟨boot_heap w.params, Array.mk [], boot_drawn, boot_toks, os⟩ := by
    unfold s0T SharedT.abs
    dsimp only
    rw [ht w]
  rw [ea] at r
  rw [← PySem.W.Fast.te4187177175401517315] at l2
  unfold openEnds
  rw [e]
  show (topFrom treeTable p w N ⟨boot_heap w.params, Array.mk [], boot_drawn, boot_toks, os⟩).map _ = _
  unfold topFrom
  dsimp only
  rw [hz w, r]
  show Option.map _ (match staticsOk (importedModules p.main.body) (boot_heap w.params) sT.abs.heap && namesBound p sT.abs.heap && gensDone sT.abs && laidKept (boot_heap w.params) sT.abs.heap with | true => some sT.abs | false => none) = _
  rw [l1]
  show some (_, _) = _
  rw [l2, l3]
noncomputable def hd.view_39 : Program := PySem.W.view prg [0,2,3,5,6,7,8,9,10,11,13,14,15,17,18,19,20,21,22,23,24,25,26,27,28,29,30,31,32,33,34,35,36,37,38,39,40,41,42,43,44,45,47,49,50,52,53,54,55,56,57,58,59,60,61,62,63,64,65]
theorem boot_tree : ∀ w : World, absHeap (bt (boot_heap w.params).objs 12 1 0) (boot_heap w.params).objs.size (boot_heap w.params).life = boot_heap w.params := by
  intro w; kernel_rfl
theorem boot_z : ∀ w : World, ((boot_heap w.params).isNs mainGlobals && (Array.mk [] : Array GenState).size == 0) = true := by
  intro w; kernel_rfl
theorem boot_o : ∀ w : World, (fencedOpening treeTable prg w 7034).map (fun s => (s.heap, s.gens, s.drawn, s.toks)) = some (boot_heap w.params, Array.mk [], boot_drawn, boot_toks) :=
  boot_open (by kernel_rfl) (by rfl) (by intro s; kernel_rfl)
theorem look1 : ∀ w : World, (fun os => (runQ prg w 7034 os).map (fun s => (staticsOk (importedModules prg.main.body) (boot_heap w.params) s.abs.heap && namesBound prg s.abs.heap && gensDone s.abs && laidKept (boot_heap w.params) s.abs.heap, PySem.W.Fast.tw4187177175401517315 hd.view_39 [Str.ofString "HintWork"] (importedModules prg.main.body) (fun s => xlAt hd.view_39 [] s && recOk (RowW.records (OpenRow.toRowW PySem.Challenge.rw_pf0201_01.row)) s) true s.abs))) = fun _ => some (true, openGood hd.view_39 [Str.ofString "HintWork"]) := by
  intro w; kernel_rfl
theorem law_said : OpenLaw.wellSaid PySem.Challenge.rw_pf0201_01 = true := by
  rw [PySem.W.Fast.te9446332074065402090]; kernel_rfl
local macro_rules | `(tactic| o_law) => `(tactic| refine PySem.W.holds_law law_said fun said => ?_)
local macro_rules | `(tactic| o_head $H) => `(tactic| (refine PySem.W.holds_open (r := PySem.Challenge.rw_pf0201_01.row) (q := hd.view_39) (loose := [Str.ofString "HintWork"]) (Xt := fun s => xlAt hd.view_39 [] s && recOk (RowW.records (OpenRow.toRowW PySem.Challenge.rw_pf0201_01.row)) s) (XP := XL hd.view_39 []) (Yf := Hook.obs $H) (Ya := Hook.val $H) (YP := Hook.says $H) (N := 7034) ?hl (Hook.of $H) (Hook.keeps $H) (fun s e => xl_of s (Bool.and_eq_true_iff.mp e).1) XL.keeps (by rfl) (by rfl) (by rfl) (fun s e => recFacts_of (Bool.and_eq_true_iff.mp e).2) (by rfl) (by first | assumption | decide +kernel) (by decide +kernel) ⟨rfl, rfl, rfl, rfl, rfl, by decide +kernel⟩ ?hw ?hc; (case hl => exact left_q boot_o boot_tree boot_z look1 (by intro w; kernel_rfl))))
noncomputable section
open_top hd for PySem.Challenge.rw_pf0201_01
end
end

local macro_rules | `(tactic| cell_enter) => `(tactic| k_extra "cell_enter")
local macro_rules | `(tactic| ktr_room) => `(tactic| k_extra "ktr_room")
local macro_rules | `(tactic| ktr_units) => `(tactic| k_extra "ktr_units")
local macro_rules | `(tactic| k_ne) => `(tactic| k_extra "k_ne")
local macro_rules | `(tactic| k_all) => `(tactic| k_extra "k_all")
local macro_rules | `(tactic| ke_room) => `(tactic| k_extra "ke_room")
local macro_rules | `(tactic| cb_eq) => `(tactic| k_extra "cb_eq")
local macro_rules | `(tactic| k_mem) => `(tactic| k_extra "k_mem")
local macro_rules | `(tactic| k_room) => `(tactic| k_extra "k_room")
local macro_rules | `(tactic| walk_at $s:str) => `(tactic| k_extra $s)

section
open PySem PySem.W PyProof.Rows PySem.Calls PySem.Spec
theorem kwPre : True := by
  k_with_none
  w_top off
  trivial
section
variable {M : Model} {A : Around} {E : Value → Shared → Prop} {s : Shared} {α : Type} {Q : α → Shared → Prop}
theorem wpIfT {c : Prop} [Decidable c] {x y : Sem α} (h : c) (H : wpAny M A x Q E s) : wpAny M A (if c then x else y) Q E s := by rw [if_pos h]; exact H
theorem wpIfF {c : Prop} [Decidable c] {x y : Sem α} (h : ¬ c) (H : wpAny M A y Q E s) : wpAny M A (if c then x else y) Q E s := by rw [if_neg h]; exact H
theorem wpEq {x y : Sem α} (e : x = y) (H : wpAny M A y Q E s) : wpAny M A x Q E s := e ▸ H
end
end

section
open PySem PySem.W PyProof.Rows PySem.Calls
theorem kwBase : True := by
  k_with_none
  w_top off
  trivial
theorem fill : (PySem.Challenge.rw_pf0201_01 = PySem.Challenge.rw_pf0201_01) ∧ (hd.heap_1 = hd.heap_1) := by k_fill; exact ⟨rfl, rfl⟩
noncomputable abbrev Cb (w : World) (mean : ExcName → Option Value) (mg mb : Str → Option Value) (f : Addr) (news : List (Addr × Obj)) (A : List (Addr × List Value × List Int)) (pre : Prop) (vs : List Value) (R : Tok → Value) : Prop :=
  CbClaim PySem.Challenge.rw_pf0201_01.row.prog w (hd.heap_1 w.params) hd.view_39 (looseW hd.view_39 [Str.ofString "HintWork"]) mean mg mb f news A pre vs R
theorem constG {M : Model} {A : Around} {env : Env} {n : Int} {k : Nat} {pos : Pos} {Q E : Value → Shared → Prop} {s : Shared} (h : ∀ t tk, Q (.int n t) { s with toks := tk }) : wpAny M A (eval (.Constant (.int n) k pos) env) Q E s := wpAny_Constant_int (h _ _)
theorem back_front {α : Type} {p x : α} {l : List α} (h : p ∈ l ++ [x]) : p ∈ x :: l := (List.mem_append.mp h).elim (fun q => .tail _ q) fun q => List.mem_singleton.mp q ▸ .head _
/-- what is done behind a statement, under one name -/
noncomputable def flowQ (M : Model) (A : Around) (rest : List Stmt) (env : Env) (Q : Flow → Shared → Prop) (E : Value → Shared → Prop) : Flow → Shared → Prop := fun f s' => match f with | .next => wpAny M A (execs rest env) Q E s' | f => Q f s'
theorem consQ {M : Model} {A : Around} {env : Env} {st : Stmt} {rest : List Stmt} {E : Value → Shared → Prop} {s : Shared} {Q : Flow → Shared → Prop}
    (h : let q : Flow → Shared → Prop := flowQ M A rest env Q E; wpAny M A (exec st env) q E s) :
    wpAny M A (execs (st :: rest) env) Q E s := wpAny_execs_cons h
theorem flow_next {M : Model} {A : Around} {env : Env} {rest : List Stmt} {E : Value → Shared → Prop} {s : Shared} {Q : Flow → Shared → Prop} (h : wpAny M A (execs rest env) Q E s) : flowQ M A rest env Q E .next s := h
theorem flow_ret {M : Model} {A : Around} {env : Env} {rest : List Stmt} {E : Value → Shared → Prop} {s : Shared} {v : Value} {Q : Flow → Shared → Prop} (h : Q (.ret v) s) : flowQ M A rest env Q E (.ret v) s := h
theorem genToks {M : Model} {A : Around} {α : Type} {t : Sem α} {Q : α → Shared → Prop} {E : Value → Shared → Prop} {h : Heap} {g : Array GenState} {d : Drawn} {k : Nat} {os : OsState} (x : ∀ tk, wpAny M A t Q E ⟨h, g, d, tk, os⟩) : wpAny M A t Q E ⟨h, g, d, k, os⟩ := x _
theorem room0 {a d l : Nat} (h : a + d < l) : a < l := Nat.lt_of_le_of_lt (Nat.le_add_right _ _) h
theorem room1 {a j d l : Nat} (h : a + d < l) (e : j ≤ d) : a + j < l := Nat.lt_of_le_of_lt (Nat.add_le_add_left e _) h
theorem room2 {a i j d l : Nat} (h : a + d < l) (e : i + j ≤ d) : a + i + j < l := by rw [Nat.add_assoc]; exact room1 h e
theorem room3 {a i j k d l : Nat} (h : a + d < l) (e : i + j + k ≤ d) : a + i + j + k < l := by rw [Nat.add_assoc a i j, Nat.add_assoc a (i + j) k]; exact room1 h e
theorem room4 {a i j k m d l : Nat} (h : a + d < l) (e : i + j + k + m ≤ d) : a + i + j + k + m < l := by rw [Nat.add_assoc a i j, Nat.add_assoc a (i + j) k, Nat.add_assoc a (i + j + k) m]; exact room1 h e
theorem neP1 {a x : Nat} {P : Prop} (h : a < x ∧ P) : x ≠ a := Nat.ne_of_gt h.1
theorem neP2 {a x : Nat} {P1 P : Prop} (h : P1 ∧ a < x ∧ P) : x ≠ a := Nat.ne_of_gt h.2.1
theorem neP3 {a x : Nat} {P1 P2 P : Prop} (h : P1 ∧ P2 ∧ a < x ∧ P) : x ≠ a := Nat.ne_of_gt h.2.2.1
theorem neP4 {a x : Nat} {P1 P2 P3 P : Prop} (h : P1 ∧ P2 ∧ P3 ∧ a < x ∧ P) : x ≠ a := Nat.ne_of_gt h.2.2.2.1
theorem neP5 {a x : Nat} {P1 P2 P3 P4 P : Prop} (h : P1 ∧ P2 ∧ P3 ∧ P4 ∧ a < x ∧ P) : x ≠ a := Nat.ne_of_gt h.2.2.2.2.1
theorem all1 {R : List (Addr × Obj)} {a x : Nat} {o : Obj} (h1 : a ≠ x) (h : ∀ p ∈ R, p.1 ≠ x) : ∀ p ∈ (a, o) :: R, p.1 ≠ x := List.forall_mem_cons.mpr ⟨h1, h⟩
theorem all2 {R : List (Addr × Obj)} {a b x : Nat} {o o' : Obj} (h1 : a ≠ x) (h2 : b ≠ x) (h : ∀ p ∈ R, p.1 ≠ x) : ∀ p ∈ (a, o) :: (b, o') :: R, p.1 ≠ x := all1 h1 (all1 h2 h)
theorem all3 {R : List (Addr × Obj)} {a b c x : Nat} {o o' o'' : Obj} (h1 : a ≠ x) (h2 : b ≠ x) (h3 : c ≠ x) (h : ∀ p ∈ R, p.1 ≠ x) : ∀ p ∈ (a, o) :: (b, o') :: (c, o'') :: R, p.1 ≠ x := all1 h1 (all2 h2 h3 h)
noncomputable def wrap32S (n : Int) : Int := Int.fmod (n + 2147483648) 4294967296 - 2147483648
theorem storeL {M : Model} {A : Around} {E : Value → Shared → Prop} {s : Shared} {h₀ : Heap} {L a : Addr} {m : Str → Option Value} {cn : Str} {cs : Scope} {ccd : Value} {cl : List (Str × Addr)} {x : Str} {v : Value} {Q : Unit → Shared → Prop} {news : List (Addr × Obj)} (F : Fr h₀ L s.heap m) (N : News h₀ L s.heap news)
    (hk : cs.kind = .function) (hx : (envX cn cs L a ccd cl).kindOf x = some .local)
    (h : let mm : Str → Option Value := fun y => if y = x then some v else m y; ∀ h' tk, Fr h₀ L h' mm → News h₀ L h' news → Q () { s with heap := h', toks := tk }) : wpAny M A (storeName (envX cn cs L a ccd cl) x v) Q E s :=
  storeX_L F N (fun h' F' N' => h h' _ F' N') hk hx
/-- the end of a def, by its flow -/
noncomputable def leaveF (h₀ : Heap) (L : Addr) (m : Str → Option Value) (g : Heap) (Q : Value → Shared → Prop) (E : Value → Shared → Prop) : Flow → Shared → Prop := fun fl s' =>
  LeaveK h₀ L m g (fun r s' => match r with | .ok (.ret v) => Q v s' | .ok _ => False | .error e => E e s') (match fl with | .ret v => v | _ => .none) s'
section
variable {h₀ g : Heap} {L L' : Addr} {m m' : Str → Option Value} {news' : List (Addr × Obj)} {Q E : Value → Shared → Prop} {v : Value} {s' : Shared}
theorem leaveF_ret (F' : Fr g L' s'.heap m') (N' : News g L' s'.heap news') (k : Fr h₀ L s'.heap m → News h₀ L s'.heap news' → Q v s') : leaveF h₀ L m g Q E (.ret v) s' := leaveK_ F' N' k
theorem leaveF_next (F' : Fr g L' s'.heap m') (N' : News g L' s'.heap news') (k : Fr h₀ L s'.heap m → News h₀ L s'.heap news' → Q .none s') : leaveF h₀ L m g Q E .next s' := leaveK_ F' N' k
end
/-- a def of the text entered, the new frame's names under one name -/
theorem enterM {name qual : Str} {params : Arguments} {body : List Stmt} {scope : Scope} {dV kV doc pm cdv ct oc : Value} {an od : Option Addr} {osl : Array (Option Value)} {f : Addr}
    {prog : Program} {w : World} {K : Frag} {p : Program} {loose : List Str} {mean : ExcName → Option Value} {mg mb : Str → Option Value} {A A₀ : Around} {base h₀ : Heap} {L : Addr} {m : Str → Option Value} {env : Env} {outer : List Env} {sh : Heap} {sg : Array GenState} {sd : Drawn} {sk : Nat} {so : OsState} {Q E : Value → Shared → Prop} {news : List (Addr × Obj)} {vs : List Value} {binds : List (Str × Value)}
    (B : Below A₀ base outer h₀) (F : Fr h₀ L sh m) (X : K.In h₀) (N : News h₀ L sh news) (T : Top p loose mean mg mb h₀) (hA : A.frames = some (env :: outer)) (hf : env.frame = some L) (hke : env.scope.kind = .function)
    (ho : K.lookup f = some ⟨oc, od, .func (fnOf name qual params body scope dV kV doc pm an cdv ct), osl⟩) (hcd : codeIn K cdv qual = true) (hroom : A.depth < recursionLimit)
    (hbind : BindsTo ⟨sh, sg, sd, sk, so⟩ (fnOf name qual params body scope dV kV doc pm an cdv ct) ⟨vs, []⟩ binds) (hloc : ∀ y ∈ binds, scope.names.lookup y.1 = some .local)
    (h : let mm : Str → Option Value := fun y => binds.reverse.lookup y
      ∀ g L' h₁ tk, Fr h₀ L g m → Fr g L' h₁ mm → News g L' h₁ news → Below A base (env :: outer) g → K.In g → Top p loose mean mg mb g →
        let qk : Flow → Shared → Prop := leaveF h₀ L m g Q E
        let ek : Value → Shared → Prop := fun e s' => wpAny (model prog w) (A.deeper (envOf qual scope L' f cdv)) (leaving (envOf qual scope L' f cdv) e) (fun _ s'' => E e s'') (fun e' s'' => E e' s'') s'
        wpAny (model prog w) (A.deeper (envOf qual scope L' f cdv)) (execs body (envOf qual scope L' f cdv)) qk ek ⟨h₁, sg, sd, tk, so⟩)
    (hco : scope.isCoroutine = false) (hgen : scope.isGenerator = false) (hk : scope.kind = .function) (hcell : ∀ x ∈ scope.names, x.2 ≠ .cell) :
    wpAny (model prog w) A (call (.ref f) vs) Q E ⟨sh, sg, sd, sk, so⟩ :=
  wpAny_call (code_def B F X N T hA hf hke ho hcd hroom hbind hloc (fun g L' h₁ FG F' N' B' X' T' => h g L' h₁ _ FG F' N' B' X' T') hco hgen hk hcell)
theorem Cb_mk {w : World} {mean : ExcName → Option Value} {mg mb : Str → Option Value} {f : Addr} {news : List (Addr × Obj)} {pre : Prop} {vs : List Value} {R : Tok → Value}
    (c : ∀ (dp un : Nat) (gd : Option (List Code)) (cn : Str) (cs : Scope) (a : Addr) (ccd : Value) (cl : List (Str × Addr)) (outer : List Env) (A₀ : Around) (base h₀ : Heap) (L : Addr) (m : Str → Option Value) (sh : Heap) (sg : Array GenState) (sd : Drawn) (sk : Nat) (so : OsState) (Q E : Value → Shared → Prop),
      Below A₀ base outer h₀ → Fr h₀ L sh m → (hd.heap_1 w.params).In h₀ → News h₀ L sh news → Top hd.view_39 (looseW hd.view_39 [Str.ofString "HintWork"]) mean mg mb h₀ → cs.kind = .function → pre → dp + 1 < recursionLimit → un + 8 < cLine →
      (∀ (t : Tok) (h' : Heap) (tk' : Nat), Fr h₀ L h' m → News h₀ L h' news → Q (R t) ⟨h', sg, sd, tk', so⟩) →
        wpAny (model PySem.Challenge.rw_pf0201_01.row.prog w) (ktrTop dp un gd cn cs L a ccd cl outer) (call (.ref f) vs) Q E ⟨sh, sg, sd, sk, so⟩) : Cb w mean mg mb f news [] pre vs R :=
  fun dp un gd cn cs a ccd cl outer A₀ base h₀ L m s Q E => c dp un gd cn cs a ccd cl outer A₀ base h₀ L m s.heap s.gens s.drawn s.toks s.os Q E
theorem kwBase_1 : True := by
  k_with_none
  k_with "cell_enter" => ((refine' enterM ?k1 ?k2 ?k3 ?k4 ?k5 ?kA ?kF ?kK ?k6 ?k7 ?k8 ?k9 ?kB ?_ ?c2 ?c3 ?c4 ?c5; (case kA => exact rfl); (case kF => exact rfl); (case kK => assumption); (case k1 => k_asm); (case k2 => k_asm); (case k3 => k_asm); (case k4 => k_asm); (case k5 => k_asm); (case k6 => k_is); (case k7 => k_is); (case k8 => first | ktr_room | k_room); (case k9 => first | exact BindsTo.of_eq rfl | exact binds_K (by k_in) rfl (by k_is) rfl rfl rfl); (case c5 => decide); (case kB => exact locs rfl); (case c2 => exact rfl); (case c3 => exact rfl); (case c4 => exact rfl); k_whole; intro mqzz gqzz Lqzz hqzz tqzz FGqzz Fqzz Nqzz Bqzz Xqzz Tqzz qkqzz ekqzz))
  k_with "storeName" => ((k_dflt (refine' storeL ?F ?N ?a ?b ?_; (case F => k_asm); (case N => k_asm); (case a => rfl); (case b => rfl); k_whole; intro mszz hszz tszz Fszz Nszz; (try k_sweep))))
  k_with "leaveF" => ((k_dflt (first | (refine' leaveF_ret ?k1 ?k2 ?_; (case k1 => k_asm); (case k2 => k_asm); k_whole) | (refine' leaveF_next ?k1 ?k2 ?_; (case k1 => k_asm); (case k2 => k_asm); k_whole)); intro kFlzz kNlzz; ground_anew kFlzz))
  trivial
theorem wrap32_c {w : World} {mean : ExcName → Option Value} {mg mb : Str → Option Value} (n : Int) (t : Tok) (news : List (Addr × Obj)) :
    Cb w mean mg mb 74 news [] True [.int n t] (fun t => .int (wrap32S n) t) := by
  refine Cb_mk ?_; intro dpY unY gdY cnY csY acY ccY clY ouY a0Y baY h0Y LY mY shY sgY sdY skY soY QY EY aB aF aX aN aT akY apY adY auY hret
  k_dflt cell_enter
  k_steps
  all_goals cb_end hret
section
variable {M : Model} {A : Around} {E : Value → Shared → Prop} {cn : Str} {cs : Scope} {a : Addr} {ccd : Value} {cl : List (Str × Addr)} {h₀ : Heap} {L : Addr} {m : Str → Option Value} {s : Shared} {x y z : Str} {u v v' : Value} {k : Int} {kk : Nat} {p p1 p2 p3 : Pos} {Q : List Value → Shared → Prop}
theorem argsN (F : Fr h₀ L s.heap m) (h : m x = some v) (hk : cs.kind = .function) (hx : (envX cn cs L a ccd cl).kindOf x = some .local) (hd : (x == ("__debug__" : Str)) = false) (ret : Q [v] s) :
    wpAny M A (spliced (backTo p (starEach [.Name x p1] (envX cn cs L a ccd cl)))) Q E s := args_cons (nameX_L F h (args_nil ret) hk hx hd)
theorem argsC (ret : ∀ t tk, Q [.int k t] { s with toks := tk }) : wpAny M A (spliced (backTo p (starEach [.Constant (.int k) kk p1] (envX cn cs L a ccd cl)))) Q E s := args_cons (wpAny_Constant_int (args_nil (ret _ _)))
theorem argsNN (F : Fr h₀ L s.heap m) (h : m x = some v) (h2 : m y = some v') (hk : cs.kind = .function) (hx : (envX cn cs L a ccd cl).kindOf x = some .local) (hd : (x == ("__debug__" : Str)) = false) (hx2 : (envX cn cs L a ccd cl).kindOf y = some .local) (hd2 : (y == ("__debug__" : Str)) = false) (ret : Q [v, v'] s) :
    wpAny M A (spliced (backTo p (starEach [.Name x p1, .Name y p2] (envX cn cs L a ccd cl)))) Q E s := args_cons (nameX_L F h (args_cons (nameX_L F h2 (args_nil ret) hk hx2 hd2)) hk hx hd)
theorem argsNC (F : Fr h₀ L s.heap m) (h : m x = some v) (hk : cs.kind = .function) (hx : (envX cn cs L a ccd cl).kindOf x = some .local) (hd : (x == ("__debug__" : Str)) = false) (ret : ∀ t tk, Q [v, .int k t] { s with toks := tk }) :
    wpAny M A (spliced (backTo p (starEach [.Name x p1, .Constant (.int k) kk p2] (envX cn cs L a ccd cl)))) Q E s := args_cons (nameX_L F h (args_cons (wpAny_Constant_int (args_nil (ret _ _)))) hk hx hd)
theorem argsNNN (F : Fr h₀ L s.heap m) (h : m x = some v) (h2 : m y = some v') (h3 : m z = some u) (hk : cs.kind = .function) (hx : (envX cn cs L a ccd cl).kindOf x = some .local) (hd : (x == ("__debug__" : Str)) = false) (hx2 : (envX cn cs L a ccd cl).kindOf y = some .local) (hd2 : (y == ("__debug__" : Str)) = false) (hx3 : (envX cn cs L a ccd cl).kindOf z = some .local) (hd3 : (z == ("__debug__" : Str)) = false) (ret : Q [v, v', u] s) :
    wpAny M A (spliced (backTo p (starEach [.Name x p1, .Name y p2, .Name z p3] (envX cn cs L a ccd cl)))) Q E s := args_cons (nameX_L F h (args_cons (nameX_L F h2 (args_cons (nameX_L F h3 (args_nil ret) hk hx3 hd3)) hk hx2 hd2)) hk hx hd)
end
noncomputable def coB (op : CmpOp) (i j : Int) : Option Bool := match op with
  | .Eq => some (i == j) | .NotEq => some (i != j) | .Lt => some (decide (i < j)) | .LtE => some (decide (i ≤ j)) | .Gt => some (decide (j < i)) | .GtE => some (decide (j ≤ i)) | _ => none
section
variable {w : World} {A : Around} {E : Value → Shared → Prop} {cn : Str} {cs : Scope} {a : Addr} {ccd : Value} {cl : List (Str × Addr)} {h₀ : Heap} {L : Addr} {m : Str → Option Value} {s : Shared} {x y : Str} {i j k : Int} {kk : Nat} {p p1 p2 : Pos} {op : CmpOp} {b : Bool} {t t2 : Tok}
theorem coB_walk {Q : Value → Shared → Prop} (c : coB op i j = some b) (h : Q (.bool b) s) : wpAny (model PySem.Challenge.rw_pf0201_01.row.prog w) A (compareOp op (.int i t) (.int j t2)) Q E s := by
  cases op with
  | Eq => injection c with c; subst c; exact eq_int h
  | NotEq => injection c with c; subst c; exact ne_int h
  | Lt => injection c with c; subst c; exact lt_int h
  | LtE => injection c with c; subst c; exact le_int h
  | Gt => injection c with c; subst c; exact gt_int h
  | GtE => injection c with c; subst c; exact ge_int h
  | _ => cases c
theorem coB_no {r : PySem.Expr} (c : coB op i j = some b) (hr : behindInMarks .Eq r = false) : behindInMarks op r = false := by cases op <;> first | exact hr | cases c
/-- a test of a name against a figure -/
theorem tsNC {whole : Sem Value} {Q : Bool → Shared → Prop} (F : Fr h₀ L s.heap m) (h : m x = some (.int i t)) (c : coB op i k = some b) (hk : cs.kind = .function) (hx : (envX cn cs L a ccd cl).kindOf x = some .local) (hd : (x == ("__debug__" : Str)) = false) (ret : ∀ tk, Q b { s with toks := tk }) :
    wpAny (model PySem.Challenge.rw_pf0201_01.row.prog w) A (isTrue (.Compare (.Name x p1) [op] [.Constant (.int k) kk p2] p) (envX cn cs L a ccd cl) whole) Q E s :=
  wpAny_isTrue_Compare1 (nameX_L F h (wpAny_Constant_int (coB_walk c (wpAny_truthy_bool (ret _)))) hk hx hd) (coB_no c (by with_unfolding_all rfl))
end
end

section
open PySem PySem.W PyProof.Rows
theorem kwStk : True := by
  k_with_none
  w_top off
  trivial
theorem kwStk_1 : True := by
  k_with_none
  k_with "cell_enter" => ((refine' enterM ?k1 ?k2 ?k3 ?k4 ?k5 ?kA ?kF ?kK ?k6 ?k7 ?k8 ?k9 ?kB ?_ ?c2 ?c3 ?c4 ?c5; (case kA => exact rfl); (case kF => exact rfl); (case kK => assumption); (case k1 => k_asm); (case k2 => k_asm); (case k3 => k_asm); (case k4 => k_asm); (case k5 => k_asm); (case k6 => k_is); (case k7 => k_is); (case k8 => first | ktr_room | k_room); (case k9 => first | exact BindsTo.of_eq rfl | exact binds_K (by k_in) rfl (by k_is) rfl rfl rfl); (case c5 => decide); (case kB => exact locs rfl); (case c2 => exact rfl); (case c3 => exact rfl); (case c4 => exact rfl); k_whole; intro mqzz gqzz Lqzz hqzz tqzz FGqzz Fqzz Nqzz Bqzz Xqzz Tqzz qkqzz ekqzz))
  k_with "storeName" => ((k_dflt (refine' storeL ?F ?N ?a ?b ?_; (case F => k_asm); (case N => k_asm); (case a => rfl); (case b => rfl); k_whole; intro mszz hszz tszz Fszz Nszz; (try k_sweep))))
  k_with "leaveF" => ((k_dflt (first | (refine' leaveF_ret ?k1 ?k2 ?_; (case k1 => k_asm); (case k2 => k_asm); k_whole) | (refine' leaveF_next ?k1 ?k2 ?_; (case k1 => k_asm); (case k2 => k_asm); k_whole)); intro kFlzz kNlzz; ground_anew kFlzz))
  k_with "ktr_room" => (((try dsimp only [depth_under_make, depth_under_kw, depth_in1, depth_deeper]); first | exact room1 (by assumption) (by decide) | exact room2 (by assumption) (by decide) | exact room0 (by assumption) | exact room3 (by assumption) (by decide) | exact room4 (by assumption) (by decide)))
  k_with "ktr_units" => (((try dsimp only [units_under_make, units_in1, units_deeper, Around.mark_units]); first | exact room1 (by assumption) (by decide) | exact room2 (by assumption) (by decide) | exact room0 (by assumption) | exact room3 (by assumption) (by decide) | exact room4 (by assumption) (by decide)))
  k_with "k_ne" => ((refine neN ?_; (try dsimp only); first | assumption | exact Ne.symm (by assumption) | exact Nat.ne_of_gt (by assumption) | exact Nat.ne_of_lt (by assumption) | exact neP1 (by assumption) | exact neP2 (by assumption) | exact neP3 (by assumption) | exact neP4 (by assumption) | exact neP5 (by assumption)))
  trivial
noncomputable abbrev sdObj (h1 h2 : Int) (t1 t2 : Tok) (most : Int) (tm : Tok) (NUMS : Addr) : Obj := dictOf [⟨h1, .str (Str.ofString "most") t1, .int most tm⟩, ⟨h2, .str (Str.ofString "numbers") t2, .ref NUMS⟩] 2

/-- the shape of a contract whose ledger is told ahead and behind -/
noncomputable abbrev CbM (w : World) (mean : ExcName → Option Value) (mg mb : Str → Option Value) (f : Addr) (dd uu : Nat) (news : List (Addr × Obj)) (vs : List Value) (Post : List (Addr × Obj) → Value → Prop) : Prop :=
  ∀ (dp un : Nat) (gd : Option (List Code)) (cn : Str) (cs : Scope) (a : Addr) (ccd : Value) (cl : List (Str × Addr)) (outer : List Env) (A₀ : Around) (base h₀ : Heap) (L : Addr) (m : Str → Option Value) (s : Shared) (Q E : Value → Shared → Prop),
    Below A₀ base outer h₀ → Fr h₀ L s.heap m → (hd.heap_1 w.params).In h₀ → News h₀ L s.heap news → Top hd.view_39 (looseW hd.view_39 [Str.ofString "HintWork"]) mean mg mb h₀ → cs.kind = .function →
    dp + dd < recursionLimit → un + uu < cLine →
    (∀ (r : Value) (news' : List (Addr × Obj)) (h' : Heap) (tk' : Nat), Fr h₀ L h' m → News h₀ L h' news' → Post news' r → Q r { s with heap := h', toks := tk' }) →
      wpAny (model PySem.Challenge.rw_pf0201_01.row.prog w) (ktrTop dp un gd cn cs L a ccd cl outer) (call (.ref f) vs) Q E s

theorem CbM_mk {w : World} {mean : ExcName → Option Value} {mg mb : Str → Option Value} {f : Addr} {dd uu : Nat} {news : List (Addr × Obj)} {vs : List Value} {Post : List (Addr × Obj) → Value → Prop}
    (c : ∀ (dp un : Nat) (gd : Option (List Code)) (cn : Str) (cs : Scope) (a : Addr) (ccd : Value) (cl : List (Str × Addr)) (outer : List Env) (A₀ : Around) (base h₀ : Heap) (L : Addr) (m : Str → Option Value) (sh : Heap) (sg : Array GenState) (sd : Drawn) (sk : Nat) (so : OsState) (Q E : Value → Shared → Prop),
    Below A₀ base outer h₀ → Fr h₀ L sh m → (hd.heap_1 w.params).In h₀ → News h₀ L sh news → Top hd.view_39 (looseW hd.view_39 [Str.ofString "HintWork"]) mean mg mb h₀ → cs.kind = .function →
    dp + dd < recursionLimit → un + uu < cLine →
    (∀ (r : Value) (news' : List (Addr × Obj)) (h' : Heap) (tk' : Nat), Fr h₀ L h' m → News h₀ L h' news' → Post news' r → Q r ⟨h', sg, sd, tk', so⟩) →
      wpAny (model PySem.Challenge.rw_pf0201_01.row.prog w) (ktrTop dp un gd cn cs L a ccd cl outer) (call (.ref f) vs) Q E ⟨sh, sg, sd, sk, so⟩) : CbM w mean mg mb f dd uu news vs Post :=
  fun dp un gd cn cs a ccd cl outer A₀ base h₀ L m s Q E => c dp un gd cn cs a ccd cl outer A₀ base h₀ L m s.heap s.gens s.drawn s.toks s.os Q E


theorem dict_ne_list {es : List DictEntry} {n : Nat} {its : Array Value} {k : Nat} : dictOf es n ≠ listOf its k := by
  intro e
  have e1 : (Value.type "dict") = Value.type "list" := congrArg Obj.cls e
  injection e1 with e2
  exact absurd e2 (by decide)
theorem inst_ne_list {C d : Addr} {its : Array Value} {k : Nat} : instObj C d ≠ listOf its k := by
  intro e
  have e1 : (Value.ref C) = Value.type "list" := congrArg Obj.cls e
  cases e1
/-- two entries of one ledger at one place are one -/
theorem news_one {h₀ h : Heap} {L : Addr} {news : List (Addr × Obj)} (N : News h₀ L h news) {a : Addr} {o o' : Obj} (h1 : (a, o) ∈ news) (h2 : (a, o') ∈ news) : o = o' := by
  have x := (N _ h1).1; have y := (N _ h2).1
  rw [x] at y; exact Option.some.inj y
theorem stk_split {h₀ h : Heap} {L : Addr} {news news' : List (Addr × Obj)} {ST SD NUMS : Nat} {o o' : Obj} {sdo : Obj} (N : News h₀ L h news) (h1 : (ST, instObj 425 SD) ∈ news) (h2 : (SD, sdo) ∈ news) (U : Upd NUMS o o' news news')
    (c1 : instObj 425 SD ≠ o) (c2 : sdo ≠ o) :
    ∃ rest, News h₀ L h ((ST, instObj 425 SD) :: (SD, sdo) :: (NUMS, o) :: rest) ∧ (∀ p ∈ rest, p.1 ≠ NUMS) ∧ ST ≠ NUMS ∧ SD ≠ NUMS ∧
      ∀ h' L' h₀', News h₀' L' h' ((ST, instObj 425 SD) :: (SD, sdo) :: (NUMS, o') :: rest) → News h₀' L' h' news' := by
  obtain ⟨pre, post, rfl, rfl, a, b⟩ := U.split
  have hm : (NUMS, o) ∈ pre ++ (NUMS, o) :: post := by simp
  refine ⟨pre ++ post, fun p hp => ?_, fun p hp => ?_, ?_, ?_, fun h' L' h₀' N' p hp => ?_⟩
  · simp only [List.mem_cons, List.mem_append] at hp
    rcases hp with rfl | rfl | rfl | hp | hp
    · exact N _ h1
    · exact N _ h2
    · exact N _ hm
    · exact N _ (by simp [hp])
    · exact N _ (by simp [hp])
  · rcases List.mem_append.mp hp with q | q
    · exact a p q
    · exact b p q
  · rintro rfl; exact c1 (news_one N h1 hm)
  · rintro rfl; exact c2 (news_one N h2 hm)
  · simp only [List.mem_cons, List.mem_append] at hp
    rcases hp with hp | rfl | hp
    · exact N' _ (by simp [hp])
    · exact N' _ (by simp)
    · exact N' _ (by simp [hp])

section
variable {w : World} {mean : ExcName → Option Value} {mg mb : Str → Option Value} {ST SD NUMS : Nat} {h1 h2 : Int} {t1 t2 : Tok} {most : Int} {tm : Tok} {vs : List Value} {xs : List Int} {k : Nat} {news news' : List (Addr × Obj)}
theorem kwStk_2 : True := by
  k_with_none
  k_with "cell_enter" => ((refine' enterM ?k1 ?k2 ?k3 ?k4 ?k5 ?kA ?kF ?kK ?k6 ?k7 ?k8 ?k9 ?kB ?_ ?c2 ?c3 ?c4 ?c5; (case kA => exact rfl); (case kF => exact rfl); (case kK => assumption); (case k1 => k_asm); (case k2 => k_asm); (case k3 => k_asm); (case k4 => k_asm); (case k5 => k_asm); (case k6 => k_is); (case k7 => k_is); (case k8 => first | ktr_room | k_room); (case k9 => first | exact BindsTo.of_eq rfl | exact binds_K (by k_in) rfl (by k_is) rfl rfl rfl); (case c5 => decide); (case kB => exact locs rfl); (case c2 => exact rfl); (case c3 => exact rfl); (case c4 => exact rfl); k_whole; intro mqzz gqzz Lqzz hqzz tqzz FGqzz Fqzz Nqzz Bqzz Xqzz Tqzz qkqzz ekqzz))
  k_with "storeName" => ((k_dflt (refine' storeL ?F ?N ?a ?b ?_; (case F => k_asm); (case N => k_asm); (case a => rfl); (case b => rfl); k_whole; intro mszz hszz tszz Fszz Nszz; (try k_sweep))))
  k_with "leaveF" => ((k_dflt (first | (refine' leaveF_ret ?k1 ?k2 ?_; (case k1 => k_asm); (case k2 => k_asm); k_whole) | (refine' leaveF_next ?k1 ?k2 ?_; (case k1 => k_asm); (case k2 => k_asm); k_whole)); intro kFlzz kNlzz; ground_anew kFlzz))
  k_with "ktr_room" => (((try dsimp only [depth_under_make, depth_under_kw, depth_in1, depth_deeper]); first | exact room1 (by assumption) (by decide) | exact room2 (by assumption) (by decide) | exact room0 (by assumption) | exact room3 (by assumption) (by decide) | exact room4 (by assumption) (by decide)))
  k_with "ktr_units" => (((try dsimp only [units_under_make, units_in1, units_deeper, Around.mark_units]); first | exact room1 (by assumption) (by decide) | exact room2 (by assumption) (by decide) | exact room0 (by assumption) | exact room3 (by assumption) (by decide) | exact room4 (by assumption) (by decide)))
  k_with "k_ne" => ((refine neN ?_; (try dsimp only); first | assumption | exact Ne.symm (by assumption) | exact Nat.ne_of_gt (by assumption) | exact Nat.ne_of_lt (by assumption) | exact neP1 (by assumption) | exact neP2 (by assumption) | exact neP3 (by assumption) | exact neP4 (by assumption) | exact neP5 (by assumption)))
  k_with "k_all" => (assumption)
  k_with "execs cons" => (((with_reducible show wpAny _ _ _ _ _ (PySem.Shared.mk _ _ _ (_ + 1) _)); refine genToks ?_; intro tk9zz))
  k_with "eval Constant int" => ((refine constG ?_; intro t9zz tk9zz))
  k_with "ke_room" => (ktr_units)
  k_with "call builtin:len" => ((k_here; (with_reducible show wpAny _ _ (call (Value.builtin "len") [Value.ref _]) _ _ _); k_dflt (refine' kst_len ?k1 ?k2 ?k3 ?k4 ?_; (case k1 => k_asm); (case k2 => k_mem); (case k3 => exact rfl); (case k4 => omega); k_whole)))
  trivial
theorem ints_snoc {us : List Value} {ys : List Int} (h : IntsAre us ys) (y : Int) (t : Tok) : IntsAre (us ++ [Value.int y t]) (ys ++ [y]) := by
  induction h with
  | nil => exact .cons _ _ .nil
  | cons k t' _ ih => exact .cons _ _ ih
theorem ints_last {us : List Value} {ys : List Int} (h : IntsAre us ys) : us = [] ∧ ys = [] ∨ ∃ vs y t zs, us = vs ++ [Value.int y t] ∧ ys = zs ++ [y] ∧ IntsAre vs zs := by
  induction h with
  | nil => exact .inl ⟨rfl, rfl⟩
  | cons k t r ih =>
    right
    rcases ih with ⟨rfl, rfl⟩ | ⟨vs, y, u, zs, rfl, rfl, i⟩
    · exact ⟨[], k, t, [], rfl, rfl, .nil⟩
    · exact ⟨_ :: vs, y, u, k :: zs, rfl, rfl, .cons _ _ i⟩
theorem pop_ok {y : Int} {ty : Tok} (m1 : (ST, instObj 425 SD) ∈ news) (m2 : (SD, sdObj h1 h2 t1 t2 most tm NUMS) ∈ news) (U : Upd NUMS (listOf (List.toArray (vs ++ [Value.int y ty])) k) (listOf vs.toArray (k + 1)) news news')
    (hv : IntsAre vs xs) (hsz : vs.length ≤ 100) :
    CbM w mean mg mb 401 20 1000 news [.ref ST] (fun n' r => n' = news' ∧ ∃ t, r = .int y t) := by
  refine CbM_mk ?_; intro dpY unY gdY cnY csY acY ccY clY ouY a0Y baY h0Y LY mY shY sgY sdY skY soY QY EY aB aF aX aN aT akY adY auY hret
  have hv2 := ints_snoc hv y ty
  have hdec : decide (xs ++ [y] = []) = false := by simp
  have hne : 0 < (vs ++ [Value.int y ty]).length := by simp
  have hsz2 : (vs ++ [Value.int y ty]).length ≤ 101 := by simp; omega
  have e1 : (vs ++ [Value.int y ty]).dropLast = vs := by simp
  have e2 : (xs ++ [y]).getLastD 0 = y := by simp
  obtain ⟨rest, N2, hr, n1, n2, back⟩ := stk_split aN m1 m2 U inst_ne_list dict_ne_list
  clear aN m1 m2 U
  generalize vs ++ [Value.int y ty] = us at *
  generalize hx : xs ++ [y] = zs at *
  k_dflt cell_enter
  k_steps
  all_goals (rename News _ _ _ _ => kN; simp only [e1] at kN; simp only [e2])
  exact hret _ _ _ _ (by k_asm) (back _ _ _ (kst_newsOf kN (by intro p hp; exact List.Mem.tail _ hp))) ⟨rfl, _, rfl⟩

theorem push_ok {x : Int} {tx : Tok} (m1 : (ST, instObj 425 SD) ∈ news) (m2 : (SD, sdObj h1 h2 t1 t2 most tm NUMS) ∈ news) (U : Upd NUMS (listOf vs.toArray k) (listOf (List.toArray (vs ++ [Value.int x tx])) (k + 1)) news news')
    (hv : IntsAre vs xs) (hm : most ≤ 100) (hsz : (vs.length : Int) < most) :
    CbM w mean mg mb 394 20 1000 news [.ref ST, .int x tx] (fun n' r => n' = news' ∧ r = .none) := by
  refine CbM_mk ?_; intro dpY unY gdY cnY csY acY ccY clY ouY a0Y baY h0Y LY mY shY sgY sdY skY soY QY EY aB aF aX aN aT akY adY auY hret
  have hl := hv.length
  obtain ⟨rest, N2, hr, n1, n2, back⟩ := stk_split aN m1 m2 U inst_ne_list dict_ne_list
  clear aN m1 m2 U
  k_dflt cell_enter
  k_with_none
  k_with "cell_enter" => ((refine' enterM ?k1 ?k2 ?k3 ?k4 ?k5 ?kA ?kF ?kK ?k6 ?k7 ?k8 ?k9 ?kB ?_ ?c2 ?c3 ?c4 ?c5; (case kA => exact rfl); (case kF => exact rfl); (case kK => assumption); (case k1 => k_asm); (case k2 => k_asm); (case k3 => k_asm); (case k4 => k_asm); (case k5 => k_asm); (case k6 => k_is); (case k7 => k_is); (case k8 => first | ktr_room | k_room); (case k9 => first | exact BindsTo.of_eq rfl | exact binds_K (by k_in) rfl (by k_is) rfl rfl rfl); (case c5 => decide); (case kB => exact locs rfl); (case c2 => exact rfl); (case c3 => exact rfl); (case c4 => exact rfl); k_whole; intro mqzz gqzz Lqzz hqzz tqzz FGqzz Fqzz Nqzz Bqzz Xqzz Tqzz qkqzz ekqzz))
  k_with "storeName" => ((k_dflt (refine' storeL ?F ?N ?a ?b ?_; (case F => k_asm); (case N => k_asm); (case a => rfl); (case b => rfl); k_whole; intro mszz hszz tszz Fszz Nszz; (try k_sweep))))
  k_with "leaveF" => ((k_dflt (first | (refine' leaveF_ret ?k1 ?k2 ?_; (case k1 => k_asm); (case k2 => k_asm); k_whole) | (refine' leaveF_next ?k1 ?k2 ?_; (case k1 => k_asm); (case k2 => k_asm); k_whole)); intro kFlzz kNlzz; ground_anew kFlzz))
  k_with "ktr_room" => (((try dsimp only [depth_under_make, depth_under_kw, depth_in1, depth_deeper]); first | exact room1 (by assumption) (by decide) | exact room2 (by assumption) (by decide) | exact room0 (by assumption) | exact room3 (by assumption) (by decide) | exact room4 (by assumption) (by decide)))
  k_with "ktr_units" => (((try dsimp only [units_under_make, units_in1, units_deeper, Around.mark_units]); first | exact room1 (by assumption) (by decide) | exact room2 (by assumption) (by decide) | exact room0 (by assumption) | exact room3 (by assumption) (by decide) | exact room4 (by assumption) (by decide)))
  k_with "k_ne" => ((refine neN ?_; (try dsimp only); first | assumption | exact Ne.symm (by assumption) | exact Nat.ne_of_gt (by assumption) | exact Nat.ne_of_lt (by assumption) | exact neP1 (by assumption) | exact neP2 (by assumption) | exact neP3 (by assumption) | exact neP4 (by assumption) | exact neP5 (by assumption)))
  k_with "k_all" => (assumption)
  k_with "execs cons" => (((with_reducible show wpAny _ _ _ _ _ (PySem.Shared.mk _ _ _ (_ + 1) _)); refine genToks ?_; intro tk9zz))
  k_with "eval Constant int" => ((refine constG ?_; intro t9zz tk9zz))
  k_with "ke_room" => (ktr_units)
  k_with "call builtin:len" => ((k_here; (with_reducible show wpAny _ _ (call (Value.builtin "len") [Value.ref _]) _ _ _); k_dflt (refine' kst_len ?k1 ?k2 ?k3 ?k4 ?_; (case k1 => k_asm); (case k2 => k_mem); (case k3 => exact rfl); (case k4 => omega); k_whole)))
  k_with "call builtin:list.append" => (k_dflt (refine' append_K ?zF ?zN ?zU ?_ ?zz; (case zF => k_asm); (case zN => k_asm); (case zU => k_upd); (case zz => (rw [PySem.sizeLine_eq]; simp only [List.size_toArray]; omega)); k_whole; intro h' F' N'; (try k_sweep)))
  k_steps
  all_goals (rename News _ _ _ _ => kN; try simp only [List.push_toArray] at kN)
  exact hret _ _ _ _ (by k_asm) (back _ _ _ kN) ⟨rfl, rfl⟩
theorem peek_ok {x : Int} {tx : Tok} (m1 : (ST, instObj 425 SD) ∈ news) (m2 : (SD, sdObj h1 h2 t1 t2 most tm NUMS) ∈ news) (m3 : (NUMS, listOf vs.toArray k) ∈ news)
    (hv : IntsAre vs xs) (hsz : vs.length ≤ 100) (h1 : 1 ≤ x) (h2 : x ≤ (vs.length : Int)) :
    CbM w mean mg mb 408 20 1000 news [.ref ST, .int x tx] (fun n' r => n' = news ∧ ∃ t, r = .int (xs.getD ((vs.length : Int) - x).toNat 0) t) := by
  refine CbM_mk ?_; intro dpY unY gdY cnY csY acY ccY clY ouY a0Y baY h0Y LY mY shY sgY sdY skY soY QY EY aB aF aX aN aT akY adY auY hret
  have hl := hv.length
  k_dflt cell_enter
  k_with_none
  k_with "cell_enter" => ((refine' enterM ?k1 ?k2 ?k3 ?k4 ?k5 ?kA ?kF ?kK ?k6 ?k7 ?k8 ?k9 ?kB ?_ ?c2 ?c3 ?c4 ?c5; (case kA => exact rfl); (case kF => exact rfl); (case kK => assumption); (case k1 => k_asm); (case k2 => k_asm); (case k3 => k_asm); (case k4 => k_asm); (case k5 => k_asm); (case k6 => k_is); (case k7 => k_is); (case k8 => first | ktr_room | k_room); (case k9 => first | exact BindsTo.of_eq rfl | exact binds_K (by k_in) rfl (by k_is) rfl rfl rfl); (case c5 => decide); (case kB => exact locs rfl); (case c2 => exact rfl); (case c3 => exact rfl); (case c4 => exact rfl); k_whole; intro mqzz gqzz Lqzz hqzz tqzz FGqzz Fqzz Nqzz Bqzz Xqzz Tqzz qkqzz ekqzz))
  k_with "storeName" => ((k_dflt (refine' storeL ?F ?N ?a ?b ?_; (case F => k_asm); (case N => k_asm); (case a => rfl); (case b => rfl); k_whole; intro mszz hszz tszz Fszz Nszz; (try k_sweep))))
  k_with "leaveF" => ((k_dflt (first | (refine' leaveF_ret ?k1 ?k2 ?_; (case k1 => k_asm); (case k2 => k_asm); k_whole) | (refine' leaveF_next ?k1 ?k2 ?_; (case k1 => k_asm); (case k2 => k_asm); k_whole)); intro kFlzz kNlzz; ground_anew kFlzz))
  k_with "ktr_room" => (((try dsimp only [depth_under_make, depth_under_kw, depth_in1, depth_deeper]); first | exact room1 (by assumption) (by decide) | exact room2 (by assumption) (by decide) | exact room0 (by assumption) | exact room3 (by assumption) (by decide) | exact room4 (by assumption) (by decide)))
  k_with "ktr_units" => (((try dsimp only [units_under_make, units_in1, units_deeper, Around.mark_units]); first | exact room1 (by assumption) (by decide) | exact room2 (by assumption) (by decide) | exact room0 (by assumption) | exact room3 (by assumption) (by decide) | exact room4 (by assumption) (by decide)))
  k_with "k_ne" => ((refine neN ?_; (try dsimp only); first | assumption | exact Ne.symm (by assumption) | exact Nat.ne_of_gt (by assumption) | exact Nat.ne_of_lt (by assumption) | exact neP1 (by assumption) | exact neP2 (by assumption) | exact neP3 (by assumption) | exact neP4 (by assumption) | exact neP5 (by assumption)))
  k_with "k_all" => (assumption)
  k_with "execs cons" => (((with_reducible show wpAny _ _ _ _ _ (PySem.Shared.mk _ _ _ (_ + 1) _)); refine genToks ?_; intro tk9zz))
  k_with "eval Constant int" => ((refine constG ?_; intro t9zz tk9zz))
  k_with "ke_room" => (ktr_units)
  k_with "call builtin:len" => ((k_here; (with_reducible show wpAny _ _ (call (Value.builtin "len") [Value.ref _]) _ _ _); k_dflt (refine' kst_len ?k1 ?k2 ?k3 ?k4 ?_; (case k1 => k_asm); (case k2 => k_mem); (case k3 => exact rfl); (case k4 => omega); k_whole)))
  k_steps
  all_goals (rename News _ _ _ _ => kN)
  exact hret _ _ _ _ (by k_asm) kN ⟨rfl, _, rfl⟩
end
end

section
open PySem PySem.W PyProof.Rows PySem.Calls
open Builtin Builtin.ObjectAttr
theorem kwExc : True := by
  k_with_none
  w_top off
  trivial
noncomputable abbrev bmH (P : Addr) : List Value := [.ref P, .type "Exception", .type "BaseException", .type "object"]
theorem bmH_has {C P : Addr} {b : Bool} {T : String} (h : (([.type "Exception", .type "BaseException", .type "object"] : List Value).contains (.type T)) = b) : (Value.ref C :: bmH P).contains (.type T) = b := by
  rw [List.contains_cons, List.contains_cons, h]; rfl
section
variable {M : Model} {A : Around} {E : Value → Shared → Prop} {h : Heap} {g : Array GenState} {d : Drawn} {t : Nat} {os : OsState}
variable {nm q : Str} {C N P : Addr} {bs : List Value} {sn : List Str} {sub : List Value} {ab : Bool} {col : Option Bool} {dd : Option Addr} {k0 k1 k2 k3 k5 : Option Value}
theorem check_newH {rest : List Value} {Q : Unit → Shared → Prop} (hC : h.get? C = some (excClassObj nm q C N bs (bmH P) true sn sub ab col dd k0 k1 k2 k3 k5 "Exception.__new__"))
    (hq : Q () ⟨h, g, d, t, os⟩) : wpAny M A (checkBuiltinCall "Exception.__new__" ⟨.ref C :: rest, []⟩) Q E ⟨h, g, d, t, os⟩ := by
  have Fn := PySem.F.excBase_Exception
  have hcont : (Value.ref C :: bmH P).contains (.type "Exception") = true := bmH_has (by decide)
  have hstar := Fn.noStar
  simp only [checkBuiltinCall, Fn.newKind, Fn.newSplit, Fn.newRow]
  repeat (first | refine wpAny_loadPart_at hC ?_ | (refine wpAny_isSubtype_exc hC ?_; rw [hcont]) | refine wpAny_staticBase_exc hC ?_ | refine wpAny_madeBy_exc hC ?_ | refine wpIfF (by rw [bne_self_eq_false]; exact Bool.false_ne_true) ?_ | wp_step)
  exact hq
end
section
variable {prog : Program} {w : World} {A : Around} {E : Value → Shared → Prop} {R : Result → Shared → Prop} {h : Heap} {g : Array GenState} {d : Drawn} {t : Nat} {os : OsState}
variable {nm q : Str} {C N P : Addr} {bs : List Value} {sn : List Str} {sub : List Value} {ab : Bool} {col : Option Bool} {dd : Option Addr} {k0 k1 k2 k3 k5 : Option Value}
theorem exc_newH {rest : List Value} (hC : h.get? C = some (excClassObj nm q C N bs (bmH P) true sn sub ab col dd k0 k1 k2 k3 k5 "Exception.__new__"))
    (hq : R (.ok (.ret (.ref (h.objs.size + 1)))) ⟨(h.push { cls := .type "tuple", data := .seq rest.toArray }).push
      { cls := .ref C, data := .fields #[.ref h.objs.size, .none, .none, .none, .bool false, .none] }, g, d, t, os⟩) (hrest : rest.length ≤ sizeLine := by size_fits) :
    codeAny (model prog w) A (.builtin "Exception.__new__" ⟨.ref C :: rest, []⟩) R ⟨h, g, d, t, os⟩ := by
  have Fn := PySem.F.excBase_Exception
  have hends := Fn.ends
  have hcB : (Value.ref C :: bmH P).contains (.type "Exception") = true := bmH_has (by decide)
  have hcA : (Value.ref C :: bmH P).contains (.type "AttributeError") = false := bmH_has (by decide)
  have hcN : (Value.ref C :: bmH P).contains (.type "NameError") = false := bmH_has (by decide)
  refine codeAny_builtinAt Fn.entry ?_
  unfold Builtin.«BaseException.__new__»
  refine PySem.wpAt_bind ?_
  show PySem.wpAt _ _ _ (stack >>= _) _ _ _
  refine PySem.wpAt_bind (PySem.wpAt_stack fun p below => PySem.wpAt_of_wpAny ?_)
  wp_walk
  refine PySem.wpAt_of_wpAny ?_
  rw [Fn.owner]
  repeat (first | with_reducible refine wpAny_madeHere_exc Fn.canon hC ?_ | with_reducible refine wpAny_loadPart_at hC ?_ | (with_reducible refine wpAny_isSubtype_exc hC ?_; first | rw [hcB] | rw [hcA] | rw [hcN]) | wp_step)
  show R _ _
  rw [Heap.size_push]
  exact hq

theorem type_callH {K : Frag} {rest : List Value} {fI : Addr} {Q : Fin → Shared → Prop}
    (hC : h.get? C = some (excClassObj nm q C N bs (bmH P) true sn sub ab col dd k0 k1 k2 k3 k5 "Exception.__new__")) (X : K.In h) (hi : findIn K (.ref C) "__init__" = some (some (.ref fI))) (hf : typeIn K (.ref fI) = some (.type "function"))
    (hq : ∀ h' e, Heap.MadeExcOf h h' e (.ref C) rest →
      wpAny (model prog w) A (call (.ref fI) (.ref e :: rest)) (fun r s' => r = .none ∧ Q (.done (.ret (.ref e))) s') E ⟨h', g, d, t, os⟩) (hrest : rest.length ≤ sizeLine := by size_fits) :
    wpAny (model prog w) A (Builtin.«type.__call__» ⟨.ref C :: rest, []⟩) Q E ⟨h, g, d, t, os⟩ := by
  have Fn := PySem.F.excBase_Exception
  repeat (first | with_reducible refine wpAny_loadPart_at hC ?_ | with_reducible refine wpAny_madeBy_exc hC ?_ | wp_step)
  refine codeAny_call_builtin_code (Code.quiet_builtin _ Fn.quiet) (check_newH hC ?_)
  refine exc_newH hC ?_ hrest
  show wpAny _ _ _ _ _ _
  have hC₁ := Heap.get?_push_of_some { cls := .ref C, data := .fields #[.ref h.objs.size, .none, .none, .none, .bool false, .none] }
    (Heap.get?_push_of_some { cls := .type "tuple", data := .seq rest.toArray } hC)
  have hget : ((h.push { cls := .type "tuple", data := .seq rest.toArray }).push
      { cls := .ref C, data := .fields #[.ref h.objs.size, .none, .none, .none, .bool false, .none] }).get? (h.objs.size + 1) = some
      { cls := .ref C, data := .fields #[.ref h.objs.size, .none, .none, .none, .bool false, .none] } := by heap_get
  have hcC : (Value.ref C :: bmH P).contains (.ref C) = true := by simp
  have X₁ : K.In ((h.push { cls := .type "tuple", data := .seq rest.toArray }).push { cls := .ref C, data := .fields #[.ref h.objs.size, .none, .none, .none, .bool false, .none] }) :=
    X.keeps fun b o e => Heap.get?_push_of_some _ (Heap.get?_push_of_some _ e)
  unfold isInstance
  repeat (first | with_reducible refine wpAny_loadPart_at hget ?_ | (with_reducible refine wpAny_isSubtype_exc hC₁ ?_; rw [hcC]) | wp_step)
  show wpAny _ _ (typeLookup (.ref C) _) _ _ _
  refine (looks_findIn X₁ hi).here ?_
  refine wpAny_holding (wpAny_bind ?_)
  refine (bind_fn X₁ _ hf).here ?_
  refine wpAny_bind (wpAny_mono (hq _ (h.objs.size + 1) ⟨fun b o hb => Heap.get?_push_of_some _ (Heap.get?_push_of_some _ hb), Heap.get?_none_of_le (Nat.le_succ _), h.objs.size, hget, Heap.get?_none_of_le (Nat.le_refl _), ?_⟩) (fun r s' hr => ?_) fun _ _ x => x)
  · exact Heap.get?_push_of_some _ (Heap.get?_push_at rfl rfl)
  · obtain ⟨rfl, hQ⟩ := hr
    wp_walk
    exact hQ

theorem call_excH {K : Frag} {rest : List Value} {fI : Addr} {Q : Value → Shared → Prop}
    (hC : h.get? C = some (excClassObj nm q C N bs (bmH P) true sn sub ab col dd k0 k1 k2 k3 k5 "Exception.__new__")) (X : K.In h) (hi : findIn K (.ref C) "__init__" = some (some (.ref fI))) (hf : typeIn K (.ref fI) = some (.type "function"))
    (hq : ∀ h' e, Heap.MadeExcOf h h' e (.ref C) rest →
      wpAny (model prog w) (A.under (.builtin "type.__call__" ⟨.ref C :: rest, []⟩)) (call (.ref fI) (.ref e :: rest)) (fun r s' => r = .none ∧ Q (.ref e) s') E ⟨h', g, d, t, os⟩) (hrest : rest.length ≤ sizeLine := by size_fits) :
    wpAny (model prog w) A (call (.ref C) rest) Q E ⟨h, g, d, t, os⟩ := by
  have f1 := tc_lookup
  have f2 := tc_bind (.ref C)
  have hT : (⟨h, g, d, t, os⟩ : Shared).TypeIs (.ref C) "type" := ⟨_, hC, rfl⟩
  refine wpAny_call (codeAny_of_tree ?_)
  show wpAny _ _ (callAny (.ref C) _) _ _ _
  repeat (any_goals (first | assumption | with_reducible refine wpAny_loadPart_at hC ?_ | wp_step))
  refine ⟨rfl, ?_⟩
  refine codeAny_call_builtin_at (Code.quiet_builtin _ (by decide +kernel)) entry_typeCall (wpAny_check_type_call_sub hC (type_callH (hrest := hrest) hC X hi hf fun h' e hm => ?_))
  exact hq h' e hm
end

section
variable {prog : Program} {w : World} {A : Around} {E : Value → Shared → Prop} {R : Result → Shared → Prop} {s : Shared} {K : Frag} {e C P L : Addr} {h₀ : Heap} {m : Str → Option Value} {name : Str} {v : Value} {cd : ClassData}
theorem refuseH (self : Value) (C P : Addr) : refuseLoop self "__setattr__" (.ref C :: bmH P) = pure () := by
  rw [refuseLoop_ref, refuseLoop_ref]
  exact PySem.F.store_Exception.passes self
theorem osa_openH {ox : Obj} {od : Option Obj} {tk : Tok} (X : K.In s.heap) (I : InstAt s.heap e ox C od) (hc : clsIn K C = some cd) (hm0 : cd.mro = .ref C :: bmH P) (ht : takerIn K C name = some none)
    (h : ∀ b, wpAny (model prog w) A.in1 (storeInOwnDict (.ref e) (.ref C) (.str name tk) name v b)
      (fun fin s' => match fin with | .done f => R (.ok f) s' | .again c' => c'.quiet = true ∧ codeAny (model prog w) A c' R s') (fun e s' => R (.error e) s') s) :
    codeAny (model prog w) A (.call (.builtin "object.__setattr__") ⟨[.ref e, .str name tk, v], []⟩) R s := by
  have SF := PySem.F.store_object
  have hm : Looks (model prog w) s.heap (mroOf (.ref C)) cd.mro := (looks_clsIn X hc).andThen .now
  have ho : cd.mro.contains (.type "object") = true := by rw [hm0]; exact bmH_has (by decide)
  have ne : cd.mro.isEmpty = false := by rw [hm0]; rfl
  have sub : Looks (model prog w) s.heap (isInstance (.ref e) (.type "object")) true := I.type.andThen (looks_mroIn X (by unfold mroIn; rw [hc, Option.bind_some, if_neg (by rw [ne]; decide), ho]))
  refine codeAny_call_builtin SF.slot.plain SF.entry (@check_slot (model prog w) _ _ s "object.__setattr__" "object" "__setattr__" (.ref e) [.str name tk, v] [] _ SF.kind SF.split sub (SF.args (.ref e) (.str name tk) v) ?_)
  obtain ⟨attr, ha, hr⟩ := Option.bind_eq_some_iff.mp ht
  have L3 : Looks (model prog w) s.heap (storeTaker? attr) none := by
    cases attr with
    | none => exact .now
    | some a =>
      obtain ⟨b, hb, hb2⟩ := Option.map_eq_some_iff.mp hr
      refine (looks_takesIn X hb).andThen ?_
      cases b with
      | false => exact .now
      | true => cases hb2
  rw [osa_eq, refuse_eq]
  refine wpAny_bind (wpAny_bind (I.type.here (wpAny_bind (hm.here ?_))))
  rw [hm0, refuseH]
  refine wpAny_pure (wpAny_bind (I.type.here (wpAny_bind ((looks_findIn X ha).here (wpAny_bind (L3.here ?_))))))
  exact h _
theorem set_excH {Q : Unit → Shared → Prop} {fs : Array Value} (F : Fr h₀ L s.heap m) (X₀ : K.In h₀) (N : News h₀ L s.heap [(e, ⟨.ref C, none, .fields fs, #[]⟩)])
    (hs : findIn K (.ref C) "__setattr__" = some (some (.builtin "object.__setattr__"))) (hc : clsIn K C = some cd) (hm0 : cd.mro = .ref C :: bmH P) (hd : cd.hasDict = true) (ht : takerIn K C name = some none)
    (h : ∀ D h' tk', Fr h₀ L h' m → News h₀ L h' [(e, ⟨.ref C, some D, .fields fs, #[]⟩)] → Q () { s with heap := h', toks := tk' }) :
    wpAny (model prog w) A (setAttr (.ref e) name v) Q E s := by
  obtain ⟨hp, gg, dr, tk, os⟩ := s
  dsimp only at F N h
  have X := X₀.keeps F.keep
  have hx := (N _ (.head _)).1
  have I : InstAt hp e ⟨.ref C, none, .fields fs, #[]⟩ C none := ⟨hx, rfl, rfl, trivial⟩
  refine set_plain X I hs ?_
  refine osa_openH (s := ⟨hp, gg, dr, tk + 1, os⟩) X I hc hm0 ht fun b => ?_
  have hD := Heap.lt_size hx
  have F1 := F.push ({ cls := .type "dict", data := .dict #[] } : Obj)
  have N1 := N.push F ({ cls := .type "dict", data := .dict #[] } : Obj)
  have x1 : (hp.push { cls := .type "dict", data := .dict #[] }).get? e = some ⟨.ref C, none, .fields fs, #[]⟩ := Heap.get?_push_of_some _ hx
  obtain ⟨F2, N2⟩ := news_upd (pre := [(hp.objs.size, ({ cls := .type "dict", data := .dict #[] } : Obj))]) (post := []) (f := fun o => { o with dict := some hp.objs.size }) (o' := ⟨.ref C, some hp.objs.size, .fields fs, #[]⟩) F1 N1
    (fun p hp => by rw [List.mem_singleton.mp hp]; exact Nat.ne_of_gt hD) (fun p hp => nomatch hp) rfl rfl
  obtain ⟨F3, N3⟩ := news_upd (pre := []) (post := [(e, (⟨.ref C, some hp.objs.size, .fields fs, #[]⟩ : Obj))]) (d := hp.objs.size) (o := ({ cls := .type "dict", data := .dict #[] } : Obj)) (f := Obj.putName name (PyData.keyHash w.params name) (.str name (tk + 1)) v)
    (o' := Obj.putName name (PyData.keyHash w.params name) (.str name (tk + 1)) v { cls := .type "dict", data := .dict #[] }) F2 N2 (fun p hp => nomatch hp) (fun p hp => by rw [List.mem_singleton.mp hp]; exact Nat.ne_of_lt hD) rfl rfl
  have D2 := (N2 _ (.head _)).1
  have D3 := (N3 _ (.head _)).1
  refine wpAny_bind (wpAny_pure (wpAny_bind (wpAny_bind (wpAny_loadPart hx (wpAny_bind ((looks_clsIn X hc).here ?_))))))
  rw [hd]
  refine wpAny_bind (wpAny_alloc ?_)
  refine wpAny_bind (wpAny_update x1 ?_)
  refine wpAny_pure (a := some hp.objs.size) (wpAny_bind (wpAny_pure (wpAny_bind ?_)))
  unfold nsSet
  refine wpAny_bind (wpAny_bind (wpAny_askSetting (wpAny_pure (wpAny_bind (wpAny_mkText (wpAny_bind (wpAny_loadPart D2 ?_)))))))

  refine wpAny_updatePart D2 ?_
  refine wpAny_bind (wpAny_lookBehind D3 (pastItsLine_dict (by rw [sizeLine_eq]; exact Nat.le_of_ble_eq_true rfl)) ?_)
  exact wpAny_pure (h _ _ _ F3 (kst_newsOf N3 (by intro p hp; exact List.Mem.tail _ hp)))
end
end

section
open PySem PySem.W PyProof.Rows
theorem kwInts : True := by
  k_with_none
  w_top off
  trivial
section
variable {w : World} {mean : ExcName → Option Value} {mg mb : Str → Option Value}
theorem kwInts_1 : True := by
  k_with_none
  k_with "cell_enter" => ((refine' enterM ?k1 ?k2 ?k3 ?k4 ?k5 ?kA ?kF ?kK ?k6 ?k7 ?k8 ?k9 ?kB ?_ ?c2 ?c3 ?c4 ?c5; (case kA => exact rfl); (case kF => exact rfl); (case kK => assumption); (case k1 => k_asm); (case k2 => k_asm); (case k3 => k_asm); (case k4 => k_asm); (case k5 => k_asm); (case k6 => k_is); (case k7 => k_is); (case k8 => first | ktr_room | k_room); (case k9 => first | exact BindsTo.of_eq rfl | exact binds_K (by k_in) rfl (by k_is) rfl rfl rfl); (case c5 => decide); (case kB => exact locs rfl); (case c2 => exact rfl); (case c3 => exact rfl); (case c4 => exact rfl); k_whole; intro mqzz gqzz Lqzz hqzz tqzz FGqzz Fqzz Nqzz Bqzz Xqzz Tqzz qkqzz ekqzz))
  k_with "storeName" => ((k_dflt (refine' storeL ?F ?N ?a ?b ?_; (case F => k_asm); (case N => k_asm); (case a => rfl); (case b => rfl); k_whole; intro mszz hszz tszz Fszz Nszz; (try k_sweep))))
  k_with "leaveF" => ((k_dflt (first | (refine' leaveF_ret ?k1 ?k2 ?_; (case k1 => k_asm); (case k2 => k_asm); k_whole) | (refine' leaveF_next ?k1 ?k2 ?_; (case k1 => k_asm); (case k2 => k_asm); k_whole)); intro kFlzz kNlzz; ground_anew kFlzz))
  k_with "ktr_room" => (((try dsimp only [depth_under_make, depth_under_kw, depth_in1, depth_deeper]); first | exact room1 (by assumption) (by decide) | exact room2 (by assumption) (by decide) | exact room0 (by assumption) | exact room3 (by assumption) (by decide) | exact room4 (by assumption) (by decide)))
  k_with "ktr_units" => (((try dsimp only [units_under_make, units_in1, units_deeper, Around.mark_units]); first | exact room1 (by assumption) (by decide) | exact room2 (by assumption) (by decide) | exact room0 (by assumption) | exact room3 (by assumption) (by decide) | exact room4 (by assumption) (by decide)))
  k_with "k_ne" => ((refine neN ?_; (try dsimp only); first | assumption | exact Ne.symm (by assumption) | exact Nat.ne_of_gt (by assumption) | exact Nat.ne_of_lt (by assumption) | exact neP1 (by assumption) | exact neP2 (by assumption) | exact neP3 (by assumption) | exact neP4 (by assumption) | exact neP5 (by assumption)))
  trivial
noncomputable def floor6S (n : Int) : Int := Int.fdiv n 64 * 64
section
variable {h₀ h' : Heap} {L : Addr} {m : Str → Option Value} {news : List (Addr × Obj)} {Q : Value → Shared → Prop} {sg : Array GenState} {sd : Drawn} {so : OsState} {tk : Nat}
theorem cbI {n k : Int} {t : Tok} (ret : ∀ (t : Tok) (h' : Heap) (tk' : Nat), Fr h₀ L h' m → News h₀ L h' news → Q (.int k t) ⟨h', sg, sd, tk', so⟩) (F : Fr h₀ L h' m) (N : News h₀ L h' news) (e : n = k) : Q (.int n t) ⟨h', sg, sd, tk, so⟩ := e ▸ ret t h' tk F N
theorem cbB {n k : Bool} (ret : ∀ (_ : Tok) (h' : Heap) (tk' : Nat), Fr h₀ L h' m → News h₀ L h' news → Q (.bool k) ⟨h', sg, sd, tk', so⟩) (F : Fr h₀ L h' m) (N : News h₀ L h' news) (e : n = k) : Q (.bool n) ⟨h', sg, sd, tk, so⟩ := e ▸ ret 0 h' tk F N
end
theorem ints_words9 : True := by
  k_with_none
  k_with "cell_enter" => ((refine' enterM ?k1 ?k2 ?k3 ?k4 ?k5 ?kA ?kF ?kK ?k6 ?k7 ?k8 ?k9 ?kB ?_ ?c2 ?c3 ?c4 ?c5; (case kA => exact rfl); (case kF => exact rfl); (case kK => assumption); (case k1 => k_asm); (case k2 => k_asm); (case k3 => k_asm); (case k4 => k_asm); (case k5 => k_asm); (case k6 => k_is); (case k7 => k_is); (case k8 => first | ktr_room | k_room); (case k9 => first | exact BindsTo.of_eq rfl | exact binds_K (by k_in) rfl (by k_is) rfl rfl rfl); (case c5 => decide); (case kB => exact locs rfl); (case c2 => exact rfl); (case c3 => exact rfl); (case c4 => exact rfl); k_whole; intro mqzz gqzz Lqzz hqzz tqzz FGqzz Fqzz Nqzz Bqzz Xqzz Tqzz qkqzz ekqzz))
  k_with "storeName" => ((k_dflt (refine' storeL ?F ?N ?a ?b ?_; (case F => k_asm); (case N => k_asm); (case a => rfl); (case b => rfl); k_whole; intro mszz hszz tszz Fszz Nszz; (try k_sweep))))
  k_with "leaveF" => ((k_dflt (first | (refine' leaveF_ret ?k1 ?k2 ?_; (case k1 => k_asm); (case k2 => k_asm); k_whole) | (refine' leaveF_next ?k1 ?k2 ?_; (case k1 => k_asm); (case k2 => k_asm); k_whole)); intro kFlzz kNlzz; ground_anew kFlzz))
  k_with "ktr_room" => (((try dsimp only [depth_under_make, depth_under_kw, depth_in1, depth_deeper]); first | exact room1 (by assumption) (by decide) | exact room2 (by assumption) (by decide) | exact room0 (by assumption) | exact room3 (by assumption) (by decide) | exact room4 (by assumption) (by decide)))
  k_with "ktr_units" => (((try dsimp only [units_under_make, units_in1, units_deeper, Around.mark_units]); first | exact room1 (by assumption) (by decide) | exact room2 (by assumption) (by decide) | exact room0 (by assumption) | exact room3 (by assumption) (by decide) | exact room4 (by assumption) (by decide)))
  k_with "k_ne" => ((refine neN ?_; (try dsimp only); first | assumption | exact Ne.symm (by assumption) | exact Nat.ne_of_gt (by assumption) | exact Nat.ne_of_lt (by assumption) | exact neP1 (by assumption) | exact neP2 (by assumption) | exact neP3 (by assumption) | exact neP4 (by assumption) | exact neP5 (by assumption)))
  k_with "execs cons" => first | (refine consQ ?_; intro q9)
  k_with "flowQ" => first | (refine flow_next ?_) | (refine flow_ret ?_)
  trivial
theorem floor6_c (n : Int) (t : Tok) (news : List (Addr × Obj)) : Cb w mean mg mb 81 news [] (-(2^40) < n ∧ n < 2^40) [.int n t] (fun t => .int (floor6S n) t) := by
  refine Cb_mk ?_; intro dpY unY gdY cnY csY acY ccY clY ouY a0Y baY h0Y LY mY shY sgY sdY skY soY QY EY aB aF aX aN aT akY apY adY auY hret
  k_dflt cell_enter
  k_steps
  all_goals (rename News _ _ _ _ => kN; first | refine cbI hret (by k_asm) (by first | exact kN | exact fun p hp => kN p (.tail _ hp)) ?_ | refine cbB hret (by k_asm) kN ?_)
  all_goals first | rfl | cb_eq
noncomputable def ceiling6S (n : Int) : Int := Int.fdiv (n + 64 - 1) 64 * 64
theorem ceiling6_c (n : Int) (t : Tok) (news : List (Addr × Obj)) : Cb w mean mg mb 88 news [] (-(2^40) < n ∧ n < 2^40) [.int n t] (fun t => .int (ceiling6S n) t) := by
  refine Cb_mk ?_; intro dpY unY gdY cnY csY acY ccY clY ouY a0Y baY h0Y LY mY shY sgY sdY skY soY QY EY aB aF aX aN aT akY apY adY auY hret
  k_dflt cell_enter
  k_steps
  all_goals (rename News _ _ _ _ => kN; first | refine cbI hret (by k_asm) (by first | exact kN | exact fun p hp => kN p (.tail _ hp)) ?_ | refine cbB hret (by k_asm) kN ?_)
  all_goals first | rfl | cb_eq
noncomputable def comparedS (c a b : Int) : Bool := if c = 80 then decide (a < b) else if c = 81 then decide (a ≤ b) else if c = 82 then decide (a > b) else if c = 83 then decide (a ≥ b) else if c = 84 then (a == b) else if c = 85 then (a != b) else if c = 90 then (a != 0 && b != 0) else (a != 0 || b != 0)
theorem kwInts_2 : True := by
  k_with_none
  k_with "cell_enter" => ((refine' enterM ?k1 ?k2 ?k3 ?k4 ?k5 ?kA ?kF ?kK ?k6 ?k7 ?k8 ?k9 ?kB ?_ ?c2 ?c3 ?c4 ?c5; (case kA => exact rfl); (case kF => exact rfl); (case kK => assumption); (case k1 => k_asm); (case k2 => k_asm); (case k3 => k_asm); (case k4 => k_asm); (case k5 => k_asm); (case k6 => k_is); (case k7 => k_is); (case k8 => first | ktr_room | k_room); (case k9 => first | exact BindsTo.of_eq rfl | exact binds_K (by k_in) rfl (by k_is) rfl rfl rfl); (case c5 => decide); (case kB => exact locs rfl); (case c2 => exact rfl); (case c3 => exact rfl); (case c4 => exact rfl); k_whole; intro mqzz gqzz Lqzz hqzz tqzz FGqzz Fqzz Nqzz Bqzz Xqzz Tqzz qkqzz ekqzz))
  k_with "storeName" => ((k_dflt (refine' storeL ?F ?N ?a ?b ?_; (case F => k_asm); (case N => k_asm); (case a => rfl); (case b => rfl); k_whole; intro mszz hszz tszz Fszz Nszz; (try k_sweep))))
  k_with "leaveF" => ((k_dflt (first | (refine' leaveF_ret ?k1 ?k2 ?_; (case k1 => k_asm); (case k2 => k_asm); k_whole) | (refine' leaveF_next ?k1 ?k2 ?_; (case k1 => k_asm); (case k2 => k_asm); k_whole)); intro kFlzz kNlzz; ground_anew kFlzz))
  k_with "ktr_room" => (((try dsimp only [depth_under_make, depth_under_kw, depth_in1, depth_deeper]); first | exact room1 (by assumption) (by decide) | exact room2 (by assumption) (by decide) | exact room0 (by assumption) | exact room3 (by assumption) (by decide) | exact room4 (by assumption) (by decide)))
  k_with "ktr_units" => (((try dsimp only [units_under_make, units_in1, units_deeper, Around.mark_units]); first | exact room1 (by assumption) (by decide) | exact room2 (by assumption) (by decide) | exact room0 (by assumption) | exact room3 (by assumption) (by decide) | exact room4 (by assumption) (by decide)))
  k_with "k_ne" => ((refine neN ?_; (try dsimp only); first | assumption | exact Ne.symm (by assumption) | exact Nat.ne_of_gt (by assumption) | exact Nat.ne_of_lt (by assumption) | exact neP1 (by assumption) | exact neP2 (by assumption) | exact neP3 (by assumption) | exact neP4 (by assumption) | exact neP5 (by assumption)))
  k_with "cb_eq" => (first | (simp_all [comparedS]; done) | (simp only [comparedS]; simp_all; done))
  trivial
theorem compared_c (c a b : Int) (tc ta tb : Tok) (news : List (Addr × Obj)) : Cb w mean mg mb 198 news [] True [.int c tc, .int a ta, .int b tb] (fun _ => .bool (comparedS c a b)) := by
  refine Cb_mk ?_; intro dpY unY gdY cnY csY acY ccY clY ouY a0Y baY h0Y LY mY shY sgY sdY skY soY QY EY aB aF aX aN aT akY apY adY auY hret
  k_dflt cell_enter
  k_steps
  all_goals (rename News _ _ _ _ => kN; first | refine cbI hret (by k_asm) (by first | exact kN | exact fun p hp => kN p (.tail _ hp)) ?_ | refine cbB hret (by k_asm) kN ?_)
  all_goals first | rfl | cb_eq
noncomputable def muldivS (a b c : Int) : Int := if a * b < 0 then 0 - Int.fdiv (0 - 2 * (a * b) + c) (2 * c) else Int.fdiv (2 * (a * b) + c) (2 * c)
theorem kwInts_3 : True := by
  k_with_none
  k_with "cell_enter" => ((refine' enterM ?k1 ?k2 ?k3 ?k4 ?k5 ?kA ?kF ?kK ?k6 ?k7 ?k8 ?k9 ?kB ?_ ?c2 ?c3 ?c4 ?c5; (case kA => exact rfl); (case kF => exact rfl); (case kK => assumption); (case k1 => k_asm); (case k2 => k_asm); (case k3 => k_asm); (case k4 => k_asm); (case k5 => k_asm); (case k6 => k_is); (case k7 => k_is); (case k8 => first | ktr_room | k_room); (case k9 => first | exact BindsTo.of_eq rfl | exact binds_K (by k_in) rfl (by k_is) rfl rfl rfl); (case c5 => decide); (case kB => exact locs rfl); (case c2 => exact rfl); (case c3 => exact rfl); (case c4 => exact rfl); k_whole; intro mqzz gqzz Lqzz hqzz tqzz FGqzz Fqzz Nqzz Bqzz Xqzz Tqzz qkqzz ekqzz))
  k_with "storeName" => ((k_dflt (refine' storeL ?F ?N ?a ?b ?_; (case F => k_asm); (case N => k_asm); (case a => rfl); (case b => rfl); k_whole; intro mszz hszz tszz Fszz Nszz; (try k_sweep))))
  k_with "leaveF" => ((k_dflt (first | (refine' leaveF_ret ?k1 ?k2 ?_; (case k1 => k_asm); (case k2 => k_asm); k_whole) | (refine' leaveF_next ?k1 ?k2 ?_; (case k1 => k_asm); (case k2 => k_asm); k_whole)); intro kFlzz kNlzz; ground_anew kFlzz))
  k_with "ktr_room" => (((try dsimp only [depth_under_make, depth_under_kw, depth_in1, depth_deeper]); first | exact room1 (by assumption) (by decide) | exact room2 (by assumption) (by decide) | exact room0 (by assumption) | exact room3 (by assumption) (by decide) | exact room4 (by assumption) (by decide)))
  k_with "ktr_units" => (((try dsimp only [units_under_make, units_in1, units_deeper, Around.mark_units]); first | exact room1 (by assumption) (by decide) | exact room2 (by assumption) (by decide) | exact room0 (by assumption) | exact room3 (by assumption) (by decide) | exact room4 (by assumption) (by decide)))
  k_with "k_ne" => ((refine neN ?_; (try dsimp only); first | assumption | exact Ne.symm (by assumption) | exact Nat.ne_of_gt (by assumption) | exact Nat.ne_of_lt (by assumption) | exact neP1 (by assumption) | exact neP2 (by assumption) | exact neP3 (by assumption) | exact neP4 (by assumption) | exact neP5 (by assumption)))
  k_with "cb_eq" => (first | (simp_all [comparedS]; done) | (simp only [comparedS]; simp_all; done))
  k_with "cb_eq" => (first | (unfold muldivS; rw [if_pos (by assumption)]; done) | (unfold muldivS; rw [if_neg (by assumption)]; done))
  trivial
theorem muldiv_c (a b c : Int) (ta tb tc : Tok) (news : List (Addr × Obj)) : Cb w mean mg mb 60 news [] (-(2^31) ≤ a ∧ a ≤ 2^31 ∧ -(2^31) ≤ b ∧ b ≤ 2^31 ∧ 0 < c ∧ c ≤ 64) [.int a ta, .int b tb, .int c tc] (fun t => .int (muldivS a b c) t) := by
  refine Cb_mk ?_; intro dpY unY gdY cnY csY acY ccY clY ouY a0Y baY h0Y LY mY shY sgY sdY skY soY QY EY aB aF aX aN aT akY apY adY auY hret
  k_dflt cell_enter
  k_steps
  all_goals (rename News _ _ _ _ => kN; first | refine cbI hret (by k_asm) (by first | exact kN | exact fun p hp => kN p (.tail _ hp)) ?_ | refine cbB hret (by k_asm) kN ?_)
  all_goals first | rfl | cb_eq
theorem noPyl {x y : Int} (h : y.natAbs < 8589934592) : Builtin.divisionGoesByPylong x y = false := by
  refine PyProof.noPylong_of_log2 ?_
  by_cases h0 : y.natAbs = 0
  · rw [h0]; decide +kernel
  · have h33 : y.natAbs.log2 < 33 := (Nat.log2_lt h0).mpr h
    omega
noncomputable def cutdivS (a c : Int) : Int := if c < 0 then (if 0 - a * 64 < 0 then 0 - Int.fdiv (0 - (0 - a * 64)) (0 - c) else Int.fdiv (0 - a * 64) (0 - c)) else (if a * 64 < 0 then 0 - Int.fdiv (0 - a * 64) c else Int.fdiv (a * 64) c)
theorem kwInts_4 : True := by
  k_with_none
  k_with "cell_enter" => ((refine' enterM ?k1 ?k2 ?k3 ?k4 ?k5 ?kA ?kF ?kK ?k6 ?k7 ?k8 ?k9 ?kB ?_ ?c2 ?c3 ?c4 ?c5; (case kA => exact rfl); (case kF => exact rfl); (case kK => assumption); (case k1 => k_asm); (case k2 => k_asm); (case k3 => k_asm); (case k4 => k_asm); (case k5 => k_asm); (case k6 => k_is); (case k7 => k_is); (case k8 => first | ktr_room | k_room); (case k9 => first | exact BindsTo.of_eq rfl | exact binds_K (by k_in) rfl (by k_is) rfl rfl rfl); (case c5 => decide); (case kB => exact locs rfl); (case c2 => exact rfl); (case c3 => exact rfl); (case c4 => exact rfl); k_whole; intro mqzz gqzz Lqzz hqzz tqzz FGqzz Fqzz Nqzz Bqzz Xqzz Tqzz qkqzz ekqzz))
  k_with "storeName" => ((k_dflt (refine' storeL ?F ?N ?a ?b ?_; (case F => k_asm); (case N => k_asm); (case a => rfl); (case b => rfl); k_whole; intro mszz hszz tszz Fszz Nszz; (try k_sweep))))
  k_with "leaveF" => ((k_dflt (first | (refine' leaveF_ret ?k1 ?k2 ?_; (case k1 => k_asm); (case k2 => k_asm); k_whole) | (refine' leaveF_next ?k1 ?k2 ?_; (case k1 => k_asm); (case k2 => k_asm); k_whole)); intro kFlzz kNlzz; ground_anew kFlzz))
  k_with "ktr_room" => (((try dsimp only [depth_under_make, depth_under_kw, depth_in1, depth_deeper]); first | exact room1 (by assumption) (by decide) | exact room2 (by assumption) (by decide) | exact room0 (by assumption) | exact room3 (by assumption) (by decide) | exact room4 (by assumption) (by decide)))
  k_with "ktr_units" => (((try dsimp only [units_under_make, units_in1, units_deeper, Around.mark_units]); first | exact room1 (by assumption) (by decide) | exact room2 (by assumption) (by decide) | exact room0 (by assumption) | exact room3 (by assumption) (by decide) | exact room4 (by assumption) (by decide)))
  k_with "k_ne" => ((refine neN ?_; (try dsimp only); first | assumption | exact Ne.symm (by assumption) | exact Nat.ne_of_gt (by assumption) | exact Nat.ne_of_lt (by assumption) | exact neP1 (by assumption) | exact neP2 (by assumption) | exact neP3 (by assumption) | exact neP4 (by assumption) | exact neP5 (by assumption)))
  k_with "cb_eq" => (first | (simp_all [comparedS]; done) | (simp only [comparedS]; simp_all; done))
  k_with "cb_eq" => (first | (unfold muldivS; rw [if_pos (by assumption)]; done) | (unfold muldivS; rw [if_neg (by assumption)]; done))
  k_with "binaryOp FloorDiv int int" => ((k_here; refine floordiv_int (by omega) ?_ (Or.inl (noPyl (by omega)))))
  k_with "cb_eq" => (first | (unfold cutdivS; rw [if_pos (by assumption), if_pos (by assumption)]; done) | (unfold cutdivS; rw [if_pos (by assumption), if_neg (by assumption)]; done) | (unfold cutdivS; rw [if_neg (by assumption), if_neg (by assumption)]; done) | (unfold cutdivS; rw [if_neg (by assumption), if_pos (by assumption)]; done))
  trivial
theorem cutdiv_c (a c : Int) (ta tb tc : Tok) (news : List (Addr × Obj)) : Cb w mean mg mb 67 news [] (-(2^31) ≤ a ∧ a ≤ 2^31 ∧ c ≠ 0 ∧ -(2^31) ≤ c ∧ c ≤ 2^31) [.int a ta, .int 64 tb, .int c tc] (fun t => .int (cutdivS a c) t) := by
  refine Cb_mk ?_; intro dpY unY gdY cnY csY acY ccY clY ouY a0Y baY h0Y LY mY shY sgY sdY skY soY QY EY aB aF aX aN aT akY apY adY auY hret
  k_dflt cell_enter
  k_steps
  all_goals (rename News _ _ _ _ => kN; first | refine cbI hret (by k_asm) (by first | exact kN | exact fun p hp => kN p (.tail _ hp)) ?_ | refine cbB hret (by k_asm) kN ?_)
  all_goals first | rfl | cb_eq
end
end

section
open PySem PySem.W PyProof.Rows PySem.Calls
theorem kwLoops : True := by
  k_with_none
  w_top off
  trivial
section
variable {prog : Program} {w : World} {A : Around} {E : Value → Shared → Prop} {s : Shared} {h₀ : Heap} {L : Addr} {m : Str → Option Value} {env : Env}
/-- a comprehension, turn by turn, by a relation over what is left -/
theorem comp_ind {elt : PySem.Expr} {x : Str} {scope : Scope} {cl : List (Str × Addr)} {S : List (Addr × Obj) → Prop} {P : Nat → Value → Prop} {Fin : List Value → List (Addr × Obj) → Prop} (J : Nat → List Value → List (Addr × Obj) → Prop)
    (fin : ∀ ys news, J 0 ys news → Fin ys news)
    (step : ∀ k i ys news v I oI C oC D m₂ h tk (E' : Value → Shared → Prop), J (k + 1) ys news → P i v → LCg.NsObj oC m₂ → m₂ x = some v → Fr h₀ L h m → News h₀ L h ((I, oI) :: (C, oC) :: (D, LCg.lst ys) :: news) → LCg.Off3 I C D news → ((@Ne Nat I C) ∧ (@Ne Nat I D) ∧ (@Ne Nat C D)) →
      wpAny (model prog w) A (eval elt (compEnvC scope cl C env)) (LCg.CompEnd h₀ L m { s with heap := h, toks := tk } I oI C oC D (LCg.lst ys) S (fun y news' => J k (ys ++ [y]) news')) E' { s with heap := h, toks := tk }) :
    ∀ k i ys news, J k ys news → LCg.CompRest prog w A h₀ L m env elt x scope cl s S P Fin k i ys news
  | 0, _, ys, news, h => LCg.CompRest.zero (fin ys news h)
  | k + 1, i, ys, news, h => LCg.CompRest.succ fun v I oI C oC D m₂ hp tk E' hv hC hx F N off ne =>
      wpAny_mono (step k i ys news v I oI C oC D m₂ hp tk E' h hv hC hx F N off ne)
        (fun _ _ p => by
          obtain ⟨h', tk', news', e, F', N', off', hS, hr⟩ := p
          exact ⟨h', tk', news', e, F', N', off', hS, comp_ind J fin step k (i + 1) _ _ hr⟩) fun _ _ e => e

/-- a loop over a list of ints of the ledger that stores its own name alone -/
theorem loopL {x : Str} {body : List Stmt} {Q : Flow → Shared → Prop} {l : Addr} {vs : List Value} {ns : List Int} {nn : Nat} {m₀ : Str → Option Value} {news : List (Addr × Obj)} (J : Nat → List (Addr × Obj) → Prop)
    (hh : A.handled = none) (hl : (l, listOf vs.toArray nn) ∈ news) (hi : IntsAre vs ns) (F : Fr h₀ env.locals s.heap m₀) (N : News h₀ env.locals s.heap news) (hj : J 0 news)
    (turn : ∀ i n t news₁ h tk own, ns[i]? = some n → OwnOff own (news.map (·.1)) → (l, listOf vs.toArray nn) ∈ news₁ → J i news₁ → Fr h₀ env.locals h (fun y => if y = x then some (.int n t) else m₀ y) → News h₀ env.locals h (news₁ ++ own) →
      wpAny (model prog w) A (execs body env) (InvPostN h₀ env.locals (fun m' nx => (l, listOf vs.toArray nn) ∈ nx ∧ J (i + 1) nx ∧ ∀ z, z ≠ x → m' z = m₀ z) own (news.map (·.1)) { s with heap := h, toks := tk } Q) E { s with heap := h, toks := tk })
    (done : ∀ (u : Str → Option Value) news₁ h tk, J ns.length news₁ → Fr h₀ env.locals h (fun y => if y = x then u y else m₀ y) → News h₀ env.locals h news₁ → Q .next { s with heap := h, toks := tk }) :
    wpAny (model prog w) A (pyIter (.ref l)) (fun it s₂ => LoopAtV prog w A h₀ env x body Q E it s₂) E s := by
  refine iter_invNL (fun i m nx => J i nx ∧ ∀ z, z ≠ x → m z = m₀ z) hh hl hi F N ⟨hj, fun _ _ => rfl⟩ ?_ ?_
  · rintro i n t m₁ news₁ h tk own hn _ hoff hmem ⟨hJ, hm⟩ F₁ N₁
    have e : (fun y => if y = x then some (Value.int n t) else m₁ y) = fun y => if y = x then some (Value.int n t) else m₀ y := by
      funext y
      by_cases hy : y = x
      · rw [if_pos hy, if_pos hy]
      · rw [if_neg hy, if_neg hy]; exact hm y hy
    rw [e] at F₁
    exact turn i n t news₁ h tk own hn hoff hmem hJ F₁ N₁
  · rintro m₁ news₁ h tk _ ⟨hJ, hm⟩ F₁ N₁
    refine done m₁ news₁ h tk hJ ?_ N₁
    have e : (fun y => if y = x then m₁ y else m₀ y) = m₁ := by
      funext y
      by_cases hy : y = x
      · rw [if_pos hy]
      · rw [if_neg hy]; exact (hm y hy).symm
    rw [e]; exact F₁
end
end

section
open PySem PySem.W PyProof.Rows PySem.Calls
theorem kwExc2 : True := by
  k_with_none
  w_top off
  trivial
section
variable {prog : Program} {w : World} {A₀ A : Around} {s : Shared} {base h₀ : Heap} {outer : List Env} {env : Env} {L : Addr} {m : Str → Option Value} {news : List (Addr × Obj)} {K : Frag} {p : Program} {loose : List Str} {mean : ExcName → Option Value} {mg mb : Str → Option Value}
  {R : Result → Shared → Prop} {name qual : Str} {params : Arguments} {body : List Stmt} {scope : Scope} {dV kV doc pm cdv ct oc : Value} {an od : Option Addr} {osl : Array (Option Value)} {f : Addr} {args : Args} {binds : List (Str × Value)}
/-- code_def, the callee's base told -/
theorem code_defG (B : Below A₀ base outer h₀) (F : Fr h₀ L s.heap m) (X₀ : K.In h₀) (N : News h₀ L s.heap news) (T : Top p loose mean mg mb h₀) (hA : A.frames = some (env :: outer)) (hf : env.frame = some L) (hke : env.scope.kind = .function)
    (ho : K.lookup f = some ⟨oc, od, .func (fnOf name qual params body scope dV kV doc pm an cdv ct), osl⟩) (hcd : codeIn K cdv qual = true) (hroom : A.depth < recursionLimit)
    (hbind : BindsTo s (fnOf name qual params body scope dV kV doc pm an cdv ct) args binds) (hloc : ∀ y ∈ binds, scope.names.lookup y.1 = some .local)
    (h : ∀ g L' h₁, g = hideAll s.heap (news.map (·.1)) → Fr h₀ L g m → Fr g L' h₁ (fun y => binds.reverse.lookup y) → News g L' h₁ news → Below A base (env :: outer) g → K.In g → Top p loose mean mg mb g →
      wpAny (model prog w) (A.deeper (envOf qual scope L' f cdv)) (execs body (envOf qual scope L' f cdv))
        (fun fl s' => LeaveK h₀ L m g R (match fl with | .ret v => v | _ => .none) s')
        (fun e s' => wpAny (model prog w) (A.deeper (envOf qual scope L' f cdv)) (leaving (envOf qual scope L' f cdv) e) (fun _ s'' => R (.error e) s'') (fun e' s'' => R (.error e') s'') s')
        { s with heap := h₁, toks := s.toks + binds.length })
    (hco : scope.isCoroutine = false) (hgen : scope.isGenerator = false) (hk : scope.kind = .function) (hcell : ∀ x ∈ scope.names, x.2 ≠ .cell) : codeAny (model prog w) A (.call (.ref f) args) R s := by
  obtain ⟨FG, BG, st, lv⟩ := groundX (R := R) B F N hA hf hke
  have X := X₀.keeps F.keep
  refine codeAny_call_def (fd := fnOf name qual params body scope dV kV doc pm an cdv ct) (body := body) (binds := binds) hroom (X _ _ ho) rfl (T.nolimit.keeps F.keep) (codeRec_of X hcd) rfl hbind hcell hloc (fun h₁ hns hk₁ => ?_) hco hgen hk
  exact wpAny_mono (h _ s.heap.objs.size h₁ rfl FG ⟨hns, fun b o e => hk₁ b o (of_hideAll _ e), Nat.le_of_eq (hideAll_size _ _)⟩
    (fun p hp => ⟨hk₁ _ _ (N p hp).1, Nat.ne_of_lt (Heap.lt_size (N p hp).1), hideAll_none _ (List.mem_map_of_mem hp)⟩) BG (X₀.keeps st) (T.keeps st)) (fun fl s' hl => lv _ _ hl) fun _ _ y => y
end
/-- the exception HintFault, made with one word -/
structure MadeH (h h' : Heap) (e t D : Addr) (v : Value) : Prop where
  keeps : ∀ b o, h.get? b = some o → h'.get? b = some o
  new : h.get? e = none
  at_ : h'.get? e = some ⟨.ref 51, some D, .fields #[.ref t, .none, .none, .none, .bool false, .none], #[]⟩
  tnew : h.get? t = none
  tup : h'.get? t = some { cls := .type "tuple", data := .seq #[v] }

section
variable {w : World} {A₀ A : Around} {s : Shared} {base h₀ : Heap} {outer : List Env} {env : Env} {L : Addr} {m : Str → Option Value} {mean : ExcName → Option Value} {mg mb : Str → Option Value} {E : Value → Shared → Prop}
theorem kwExc2_1 : True := by
  k_with_none
  k_with "setAttr ref" => ((k_here; k_dflt (refine' set_excH (P := 38) ?k1 ?k2 ?k3 ?k4 ?k5 ?k6 ?k7 ?k8 ?_; (case k1 => k_asm); (case k2 => k_asm); (case k3 => k_asm); (case k4 => k_is); (case k5 => k_is); (case k6 => exact rfl); (case k7 => exact rfl); (case k8 => k_is); k_whole; intro Dzz hzz tzz Fzz Nzz)))
  trivial
theorem init_msg {e : Addr} {fs : Array Value} {v : Value} {Q : Value → Shared → Prop} (B : Below A₀ base outer h₀) (F : Fr h₀ L s.heap m) (X₀ : (hd.heap_1 w.params).In h₀) (N : News h₀ L s.heap [(e, ⟨.ref 51, none, .fields fs, #[]⟩)])
    (T : Top hd.view_39 (looseW hd.view_39 [Str.ofString "HintWork"]) mean mg mb h₀) (hA : A.frames = some (env :: outer)) (hf : env.frame = some L) (hke : env.scope.kind = .function) (hroom : A.depth < recursionLimit)
    (h : ∀ D h' tk', (∀ b o, b ≠ e → s.heap.get? b = some o → h'.get? b = some o) → h'.get? e = some ⟨.ref 51, some D, .fields fs, #[]⟩ → Q .none { s with heap := h', toks := tk' }) :
    wpAny (model PySem.Challenge.rw_pf0201_01.row.prog w) A (call (.ref 35) [.ref e, v]) Q E s := by
  refine wpAny_call ?_
  k_dflt (refine' code_defG ?k1 ?k2 ?k3 ?k4 ?k5 ?kA ?kF ?kK ?k6 ?k7 ?k8 ?k9 ?kB ?_ ?c2 ?c3 ?c4 ?c5; (case kA => exact hA); (case kF => exact hf); (case kK => exact hke); (case k1 => k_asm); (case k2 => k_asm); (case k3 => k_asm); (case k4 => k_asm); (case k5 => k_asm); (case k6 => k_is); (case k7 => k_is); (case k8 => exact hroom); (case k9 => exact BindsTo.of_eq rfl); (case c5 => decide); (case kB => exact locs rfl); (case c2 => exact rfl); (case c3 => exact rfl); (case c4 => exact rfl))
  intro g L' h₁ hg FG F' N' B' X' T'
  dsimp only
  k_fold
  k_steps
  rename Fr g _ _ _ => F9
  rename News h₀ L _ _ => kN
  exact h _ _ _ (fun b o hb ho => F9.keep _ _ (by rw [hg]; exact hideAll_get _ ho (by simpa using hb))) (kN _ (.head _)).1

theorem call_hint {v : Value} {Q : Value → Shared → Prop} (B : Below A₀ base outer h₀) (F : Fr h₀ L s.heap m) (X₀ : (hd.heap_1 w.params).In h₀)
    (T : Top hd.view_39 (looseW hd.view_39 [Str.ofString "HintWork"]) mean mg mb h₀) (hA : A.frames = some (env :: outer)) (hf : env.frame = some L) (hke : env.scope.kind = .function) (hroom : A.depth + 1 < recursionLimit)
    (h : ∀ e t D h' tk', MadeH s.heap h' e t D v → Q (.ref e) { s with heap := h', toks := tk' }) :
    wpAny (model PySem.Challenge.rw_pf0201_01.row.prog w) A (call (.ref 51) [v]) Q E s := by
  have X := X₀.keeps F.keep
  have hC0 := X 51 _ (by k_is)
  obtain ⟨hp, gg, dr, tk, os⟩ := s
  refine call_excH (P := 38) hC0 X (fI := 35) (by k_is) (by k_is) (fun h' e M => ?_) (by show 1 ≤ _; rw [sizeLine_eq]; omega)
  obtain ⟨kp, kn, t, k1, k2, k3⟩ := M
  have F1 : Fr h₀ L h' m := F.keeps kp
  have ne : h₀.get? e = none := by
    cases q : h₀.get? e with
    | none => rfl
    | some o => have := F.keep _ _ q; rw [kn] at this; cases this
  have N1 : News h₀ L h' [(e, ⟨.ref 51, none, .fields #[.ref t, .none, .none, .none, .bool false, .none], #[]⟩)] := fun p hp => by
    rw [List.mem_singleton.mp hp]
    refine ⟨k1, ?_, ne⟩
    rintro rfl
    obtain ⟨oL, _, _, hL, _⟩ := F.ns
    rw [kn] at hL; cases hL
  refine init_msg (s := ⟨h', gg, dr, tk, os⟩) B F1 X₀ N1 T (by exact hA) hf hke (by simp only [depth_under_make]; exact hroom) fun D h'' tk'' kk ke => ⟨rfl, ?_⟩
  refine h e t D h'' tk'' ⟨fun b o hb => kk _ _ (by rintro rfl; rw [kn] at hb; cases hb) (kp _ _ hb), kn, ke, k2, kk _ _ (by rintro rfl; rw [k1] at k3; cases k3) k3⟩

theorem raiseStmtH {M : Model} {C N P : Addr} {nm q : Str} {bs : List Value} {sn : List Str} {sub : List Value} {ab : Bool} {col : Option Bool} {dd : Option Addr} {k0 k1 k2 k3 k5 : Option Value} {x : Sem Value} {Q : Flow → Shared → Prop} (hC0 : h₀.get? C = some (excClassObj nm q C N bs (bmH P) true sn sub ab col dd k0 k1 k2 k3 k5 "Exception.__new__")) (hh : A.handled = none)
    (h : wpAny M A x (fun v s₁ => ∃ e t D, v = .ref e ∧ h₀.StaysIn s₁.heap ∧
      s₁.heap.get? e = some ⟨.ref C, some D, .fields #[.ref t, .none, .none, .none, .bool false, .none], #[]⟩ ∧ E (.ref e) s₁) E s) :
    wpAny M A (raiseStmt env (some x) none) Q E s := by
  have hcB : (Value.ref C :: bmH P).contains (.type "BaseException") = true := bmH_has (by decide)
  unfold raiseStmt
  refine wpAny_bind (wpAny_mono h (fun v s₁ h₁ => ?_) fun _ _ x => x)
  obtain ⟨e, t, D, rfl, hst, he, hE⟩ := h₁
  have hC := hst _ _ hC0
  obtain ⟨hp, g, d, tk, os⟩ := s₁
  repeat (first | with_reducible refine wpAny_loadPart_at he ?_ | with_reducible refine wpAny_loadPart_at hC ?_ | (with_reducible refine wpAny_isSubtype_exc hC ?_; rw [hcB]) | wp_step)
  exact wpAny_raiseNew_none hh hE
theorem Raise_H {ex : PySem.Expr} {pos : Pos} {Q : Flow → Shared → Prop} (X₀ : (hd.heap_1 w.params).In h₀) (hh : A.handled = none)
    (h : wpAny (model PySem.Challenge.rw_pf0201_01.row.prog w) A (eval ex env) (fun v s₁ => ∃ e t D x h, v = .ref e ∧ h₀.StaysIn h ∧ MadeH h s₁.heap e t D x ∧ E (.ref e) s₁) E s) :
    wpAny (model PySem.Challenge.rw_pf0201_01.row.prog w) A (exec (.Raise (some ex) none pos) env) Q E s := by
  rw [arm_exec_Raise]
  refine wpAny_bind (wpAny_standAt ?_)
  have hC0 := X₀ 51 _ (by k_is)
  refine raiseStmtH (P := 38) hC0 hh (wpAny_bind (wpAny_mono h (fun v s₁ h₁ => wpAny_bind (wpAny_standAt (wpAny_pure ?_))) fun _ _ x => x))
  obtain ⟨e, t, D, x, hp, rfl, st, MH, hE⟩ := h₁
  exact ⟨e, t, D, rfl, fun b o hb => MH.keeps _ _ (st _ _ hb), MH.at_, hE⟩
end
end

section
open PySem PySem.W PyProof.Rows PySem.Calls
theorem kwExc3 : True := by
  k_with_none
  w_top off
  trivial
section
variable {M : Model} {A : Around} {E : Value → Shared → Prop} {s' : Shared} {base g h : Heap} {outer : List Env} {L a e t D : Addr} {m : Str → Option Value} {name : Str} {scope : Scope} {cd v : Value} {Q : Unit → Shared → Prop} {news : List (Addr × Obj)}
theorem kwExc3_1 : True := by
  k_with_none
  k_with "cell_enter" => ((refine' enterM ?k1 ?k2 ?k3 ?k4 ?k5 ?kA ?kF ?kK ?k6 ?k7 ?k8 ?k9 ?kB ?_ ?c2 ?c3 ?c4 ?c5; (case kA => exact rfl); (case kF => exact rfl); (case kK => assumption); (case k1 => k_asm); (case k2 => k_asm); (case k3 => k_asm); (case k4 => k_asm); (case k5 => k_asm); (case k6 => k_is); (case k7 => k_is); (case k8 => first | ktr_room | k_room); (case k9 => first | exact BindsTo.of_eq rfl | exact binds_K (by k_in) rfl (by k_is) rfl rfl rfl); (case c5 => decide); (case kB => exact locs rfl); (case c2 => exact rfl); (case c3 => exact rfl); (case c4 => exact rfl); k_whole; intro mqzz gqzz Lqzz hqzz tqzz FGqzz Fqzz Nqzz Bqzz Xqzz Tqzz qkqzz ekqzz))
  k_with "storeName" => ((k_dflt (refine' storeL ?F ?N ?a ?b ?_; (case F => k_asm); (case N => k_asm); (case a => rfl); (case b => rfl); k_whole; intro mszz hszz tszz Fszz Nszz; (try k_sweep))))
  k_with "leaveF" => ((k_dflt (first | (refine' leaveF_ret ?k1 ?k2 ?_; (case k1 => k_asm); (case k2 => k_asm); k_whole) | (refine' leaveF_next ?k1 ?k2 ?_; (case k1 => k_asm); (case k2 => k_asm); k_whole)); intro kFlzz kNlzz; ground_anew kFlzz))
  k_with "ktr_room" => (((try dsimp only [depth_under_make, depth_under_kw, depth_in1, depth_deeper]); first | exact room1 (by assumption) (by decide) | exact room2 (by assumption) (by decide) | exact room0 (by assumption) | exact room3 (by assumption) (by decide) | exact room4 (by assumption) (by decide)))
  k_with "ktr_units" => (((try dsimp only [units_under_make, units_in1, units_deeper, Around.mark_units]); first | exact room1 (by assumption) (by decide) | exact room2 (by assumption) (by decide) | exact room0 (by assumption) | exact room3 (by assumption) (by decide) | exact room4 (by assumption) (by decide)))
  k_with "k_ne" => ((refine neN ?_; (try dsimp only); first | assumption | exact Ne.symm (by assumption) | exact Nat.ne_of_gt (by assumption) | exact Nat.ne_of_lt (by assumption) | exact neP1 (by assumption) | exact neP2 (by assumption) | exact neP3 (by assumption) | exact neP4 (by assumption) | exact neP5 (by assumption)))
  trivial
theorem leave_raiseH (K : Below A base outer g) (hx : MadeH h s'.heap e t D v) (F : Fr g L h m) (N : News g L h news)
    (hQ : ∀ h', RaisedS base g outer e (.ref 51) t [v] news h' → g.UpToSlots h' → Q () { s' with heap := h' }) (hk : scope.kind = .function := by rfl) :
    wpAny M (A.deeper (envOf name scope L a cd)) (leaving (envOf name scope L a cd) (.ref e)) Q E s' := by
  have K' := K.push (name := name) (a := a) (cd := cd) F hk
  have hin : ∀ env ∈ (envOf name scope L a cd :: outer), ∀ b, env.frame = some b → b ∈ (envOf name scope L a cd :: outer).filterMap (·.frame) := fun env he b hb => List.mem_filterMap.mpr ⟨env, he, hb⟩
  have st : base.StaysIn (hideAll h ((envOf name scope L a cd :: outer).filterMap (·.frame))) := fun b o q => hideAll_get _ (K'.stays b o q) fun hm => by
    rw [(K'.frames.mem hm).1] at q; cases q
  have sg : ∀ b o, g.get? b = some o → b ∉ outer.filterMap (·.frame) → (hideAll h ((envOf name scope L a cd :: outer).filterMap (·.frame))).get? b = some o := fun b o q nm => hideAll_get _ (F.keep b o q) fun hm => by
    rcases kts_mem hm with z | z
    · rw [z, kts_self F] at q
      cases q
    · exact nm z
  have hl : ∀ q ∈ news, (hideAll h ((envOf name scope L a cd :: outer).filterMap (·.frame))).get? q.1 = some q.2 ∧ g.get? q.1 = none ∧ base.get? q.1 = none := fun q hq => by
    refine ⟨hideAll_get _ (N q hq).1 fun hm => ?_, (N q hq).2.2, fresh_of_stays K.stays (N q hq).2.2⟩
    obtain ⟨env, he, hf⟩ := List.mem_filterMap.mp hm
    rcases List.mem_cons.mp he with rfl | he
    · exact (N q hq).2.1 (Option.some.inj hf).symm
    · obtain ⟨o, ho, _⟩ := (K.frames.mem (List.mem_filterMap.mpr ⟨env, he, hf⟩)).2
      rw [(N q hq).2.2] at ho; cases ho
  have hkb := fun b o (q : (hideAll h ((envOf name scope L a cd :: outer).filterMap (·.frame))).get? b = some o) => (of_hideAll _ q : h.get? b = some o)
  have fresh : ∀ b, h.get? b = none → (hideAll h ((envOf name scope L a cd :: outer).filterMap (·.frame))).get? b = none := fun b hb => by
    cases hq : (hideAll h ((envOf name scope L a cd :: outer).filterMap (·.frame))).get? b with
    | none => rfl
    | some o' => have := hkb b o' hq; rw [hb] at this; cases this
  refine wpAny_leaving_firstW (a0 := .ref t) K'.stack ((funFrames_hide K'.frames hin).of_keeps fun b o hb _ => ⟨o, hx.keeps b o hb, rfl⟩) rfl hx.at_ (fun b o hb => hx.keeps b o (hkb b o hb)) (fresh e hx.new) rfl rfl rfl fun h' hL => ?_
  obtain ⟨k1, ⟨_, _, k2⟩, k3, k4⟩ := hL
  have tup : h'.TupAt t [v] := Heap.TupAt.of_slots ⟨_, _, hx.tup, rfl, rfl⟩ k4
  exact hQ h' ⟨⟨_, st, sg, hl, ⟨k1, fresh e hx.new, k2, k3⟩, fresh t hx.tnew⟩, tup⟩ (((Heap.UpToSlots.of_keeps F.keep).trans (Heap.UpToSlots.of_keeps hx.keeps)).trans k4)
end

/-- the shape of a contract of a raise -/
noncomputable abbrev CbE (w : World) (mean : ExcName → Option Value) (mg mb : Str → Option Value) (f : Addr) (dd uu : Nat) (news : List (Addr × Obj)) (vs : List Value) (kept : List (Addr × Obj)) : Prop :=
  ∀ (dp un : Nat) (gd : Option (List Code)) (cn : Str) (cs : Scope) (a : Addr) (ccd : Value) (cl : List (Str × Addr)) (outer : List Env) (A₀ : Around) (base h₀ : Heap) (L : Addr) (m : Str → Option Value) (s : Shared) (Q E : Value → Shared → Prop),
    Below A₀ base outer h₀ → Fr h₀ L s.heap m → (hd.heap_1 w.params).In h₀ → News h₀ L s.heap news → Top hd.view_39 (looseW hd.view_39 [Str.ofString "HintWork"]) mean mg mb h₀ → cs.kind = .function →
    dp + dd < recursionLimit → un + uu < cLine →
    (∀ (G : Heap) (e t : Addr) (x : Value) (h' : Heap) (tk' : Nat), Fr h₀ L G m → RaisedS base G (envX cn cs L a ccd cl :: outer) e (.ref 51) t [x] kept h' → G.UpToSlots h' → E (.ref e) { s with heap := h', toks := tk' }) →
      wpAny (model PySem.Challenge.rw_pf0201_01.row.prog w) (ktrTop dp un gd cn cs L a ccd cl outer) (call (.ref f) vs) Q E s

theorem CbE_mk {w : World} {mean : ExcName → Option Value} {mg mb : Str → Option Value} {f : Addr} {dd uu : Nat} {news : List (Addr × Obj)} {vs : List Value} {kept : List (Addr × Obj)}
    (c : ∀ (dp un : Nat) (gd : Option (List Code)) (cn : Str) (cs : Scope) (a : Addr) (ccd : Value) (cl : List (Str × Addr)) (outer : List Env) (A₀ : Around) (base h₀ : Heap) (L : Addr) (m : Str → Option Value) (sh : Heap) (sg : Array GenState) (sd : Drawn) (sk : Nat) (so : OsState) (Q E : Value → Shared → Prop),
      Below A₀ base outer h₀ → Fr h₀ L sh m → (hd.heap_1 w.params).In h₀ → News h₀ L sh news → Top hd.view_39 (looseW hd.view_39 [Str.ofString "HintWork"]) mean mg mb h₀ → cs.kind = .function → dp + dd < recursionLimit → un + uu < cLine →
      (∀ (G : Heap) (e t : Addr) (x : Value) (h' : Heap) (tk' : Nat), Fr h₀ L G m → RaisedS base G (envX cn cs L a ccd cl :: outer) e (.ref 51) t [x] kept h' → G.UpToSlots h' → E (.ref e) ⟨h', sg, sd, tk', so⟩) →
        wpAny (model PySem.Challenge.rw_pf0201_01.row.prog w) (ktrTop dp un gd cn cs L a ccd cl outer) (call (.ref f) vs) Q E ⟨sh, sg, sd, sk, so⟩) : CbE w mean mg mb f dd uu news vs kept :=
  fun dp un gd cn cs a ccd cl outer A₀ base h₀ L m s Q E => c dp un gd cn cs a ccd cl outer A₀ base h₀ L m s.heap s.gens s.drawn s.toks s.os Q E
theorem RaisedS.sub {base G : Heap} {l : List Env} {e t : Addr} {cls : Value} {vs : List Value} {news news' : List (Addr × Obj)} {h : Heap} (R : RaisedS base G l e cls t vs news h) (hs : ∀ p ∈ news', p ∈ news) : RaisedS base G l e cls t vs news' h := by
  obtain ⟨⟨B, hB, hBG, hl, hfl, hnew⟩, htup⟩ := R
  exact ⟨⟨B, hB, hBG, fun q hq => hl q (hs q hq), hfl, hnew⟩, htup⟩

section
variable {w : World} {mean : ExcName → Option Value} {mg mb : Str → Option Value} {ST SD NUMS : Nat} {h1 h2 : Int} {t1 t2 : Tok} {most : Int} {tm : Tok} {vs : List Value} {xs : List Int} {k : Nat} {news news' : List (Addr × Obj)}
theorem kwExc3_2 : True := by
  k_with_none
  k_with "cell_enter" => ((refine' enterM ?k1 ?k2 ?k3 ?k4 ?k5 ?kA ?kF ?kK ?k6 ?k7 ?k8 ?k9 ?kB ?_ ?c2 ?c3 ?c4 ?c5; (case kA => exact rfl); (case kF => exact rfl); (case kK => assumption); (case k1 => k_asm); (case k2 => k_asm); (case k3 => k_asm); (case k4 => k_asm); (case k5 => k_asm); (case k6 => k_is); (case k7 => k_is); (case k8 => first | ktr_room | k_room); (case k9 => first | exact BindsTo.of_eq rfl | exact binds_K (by k_in) rfl (by k_is) rfl rfl rfl); (case c5 => decide); (case kB => exact locs rfl); (case c2 => exact rfl); (case c3 => exact rfl); (case c4 => exact rfl); k_whole; intro mqzz gqzz Lqzz hqzz tqzz FGqzz Fqzz Nqzz Bqzz Xqzz Tqzz qkqzz ekqzz))
  k_with "storeName" => ((k_dflt (refine' storeL ?F ?N ?a ?b ?_; (case F => k_asm); (case N => k_asm); (case a => rfl); (case b => rfl); k_whole; intro mszz hszz tszz Fszz Nszz; (try k_sweep))))
  k_with "leaveF" => ((k_dflt (first | (refine' leaveF_ret ?k1 ?k2 ?_; (case k1 => k_asm); (case k2 => k_asm); k_whole) | (refine' leaveF_next ?k1 ?k2 ?_; (case k1 => k_asm); (case k2 => k_asm); k_whole)); intro kFlzz kNlzz; ground_anew kFlzz))
  k_with "ktr_room" => (((try dsimp only [depth_under_make, depth_under_kw, depth_in1, depth_deeper]); first | exact room1 (by assumption) (by decide) | exact room2 (by assumption) (by decide) | exact room0 (by assumption) | exact room3 (by assumption) (by decide) | exact room4 (by assumption) (by decide)))
  k_with "ktr_units" => (((try dsimp only [units_under_make, units_in1, units_deeper, Around.mark_units]); first | exact room1 (by assumption) (by decide) | exact room2 (by assumption) (by decide) | exact room0 (by assumption) | exact room3 (by assumption) (by decide) | exact room4 (by assumption) (by decide)))
  k_with "k_ne" => ((refine neN ?_; (try dsimp only); first | assumption | exact Ne.symm (by assumption) | exact Nat.ne_of_gt (by assumption) | exact Nat.ne_of_lt (by assumption) | exact neP1 (by assumption) | exact neP2 (by assumption) | exact neP3 (by assumption) | exact neP4 (by assumption) | exact neP5 (by assumption)))
  k_with "k_all" => (assumption)
  k_with "ke_room" => (ktr_units)
  k_with "call builtin:len" => ((k_here; (with_reducible show wpAny _ _ (call (Value.builtin "len") [Value.ref _]) _ _ _); k_dflt (refine' kst_len ?k1 ?k2 ?k3 ?k4 ?_; (case k1 => k_asm); (case k2 => k_mem); (case k3 => exact rfl); (case k4 => omega); k_whole)))
  k_with "exec Raise some none" => ((k_here; k_dflt (refine' Raise_H ?X ?h ?_; (case X => k_asm); (case h => exact rfl); k_whole)))
  k_with "call ref" => ((k_here; (with_reducible show wpAny _ _ (call (Value.ref 51) [_]) _ _ _); k_dflt (refine' call_hint ?B ?F ?X ?T ?A ?f ?k ?r ?_; (case A => exact rfl); (case f => exact rfl); (case k => exact rfl); (case B => k_asm); (case F => k_asm); (case X => k_asm); (case T => k_asm); (case r => ktr_room); k_whole; intro ezz tzz Dzz hzz tkzz MHzz)))
  k_with "Exists" => ((k_here; (rename MadeH _ _ _ _ _ _ => mhXzz); refine ⟨_, _, _, _, _, rfl, Fr.keep (by k_asm), mhXzz, ?_⟩))
  k_with "leaving ref" => ((k_here; (rename MadeH _ _ _ _ _ _ => mhXzz); k_dflt (refine' leave_raiseH ?K mhXzz ?F ?N ?_; (case K => k_asm); (case F => k_asm); (case N => k_asm); k_whole; intro hzz Rzz Uzz)))
  trivial
theorem stk_pre {h₀ h : Heap} {L : Addr} {o : Obj} {sdo : Obj} (N : News h₀ L h news) (h1 : (ST, instObj 425 SD) ∈ news) (h2 : (SD, sdo) ∈ news) (h3 : (NUMS, o) ∈ news) :
    News h₀ L h ((ST, instObj 425 SD) :: (SD, sdo) :: (NUMS, o) :: news) := fun p hp => by
  simp only [List.mem_cons] at hp
  rcases hp with rfl | rfl | rfl | hp
  · exact N _ h1
  · exact N _ h2
  · exact N _ h3
  · exact N _ hp
theorem exc3_words9 : True := by
  k_with_none
  k_with "cell_enter" => ((refine' enterM ?k1 ?k2 ?k3 ?k4 ?k5 ?kA ?kF ?kK ?k6 ?k7 ?k8 ?k9 ?kB ?_ ?c2 ?c3 ?c4 ?c5; (case kA => exact rfl); (case kF => exact rfl); (case kK => assumption); (case k1 => k_asm); (case k2 => k_asm); (case k3 => k_asm); (case k4 => k_asm); (case k5 => k_asm); (case k6 => k_is); (case k7 => k_is); (case k8 => first | ktr_room | k_room); (case k9 => first | exact BindsTo.of_eq rfl | exact binds_K (by k_in) rfl (by k_is) rfl rfl rfl); (case c5 => decide); (case kB => exact locs rfl); (case c2 => exact rfl); (case c3 => exact rfl); (case c4 => exact rfl); k_whole; intro mqzz gqzz Lqzz hqzz tqzz FGqzz Fqzz Nqzz Bqzz Xqzz Tqzz qkqzz ekqzz))
  k_with "storeName" => ((k_dflt (refine' storeL ?F ?N ?a ?b ?_; (case F => k_asm); (case N => k_asm); (case a => rfl); (case b => rfl); k_whole; intro mszz hszz tszz Fszz Nszz; (try k_sweep))))
  k_with "leaveF" => ((k_dflt (first | (refine' leaveF_ret ?k1 ?k2 ?_; (case k1 => k_asm); (case k2 => k_asm); k_whole) | (refine' leaveF_next ?k1 ?k2 ?_; (case k1 => k_asm); (case k2 => k_asm); k_whole)); intro kFlzz kNlzz; ground_anew kFlzz))
  k_with "ktr_room" => (((try dsimp only [depth_under_make, depth_under_kw, depth_in1, depth_deeper]); first | exact room1 (by assumption) (by decide) | exact room2 (by assumption) (by decide) | exact room0 (by assumption) | exact room3 (by assumption) (by decide) | exact room4 (by assumption) (by decide)))
  k_with "ktr_units" => (((try dsimp only [units_under_make, units_in1, units_deeper, Around.mark_units]); first | exact room1 (by assumption) (by decide) | exact room2 (by assumption) (by decide) | exact room0 (by assumption) | exact room3 (by assumption) (by decide) | exact room4 (by assumption) (by decide)))
  k_with "k_ne" => ((refine neN ?_; (try dsimp only); first | assumption | exact Ne.symm (by assumption) | exact Nat.ne_of_gt (by assumption) | exact Nat.ne_of_lt (by assumption) | exact neP1 (by assumption) | exact neP2 (by assumption) | exact neP3 (by assumption) | exact neP4 (by assumption) | exact neP5 (by assumption)))
  k_with "k_all" => (assumption)
  k_with "ke_room" => (ktr_units)
  k_with "call builtin:len" => ((k_here; (with_reducible show wpAny _ _ (call (Value.builtin "len") [Value.ref _]) _ _ _); k_dflt (refine' kst_len ?k1 ?k2 ?k3 ?k4 ?_; (case k1 => k_asm); (case k2 => k_mem); (case k3 => exact rfl); (case k4 => omega); k_whole)))
  k_with "exec Raise some none" => ((k_here; k_dflt (refine' Raise_H ?X ?h ?_; (case X => k_asm); (case h => exact rfl); k_whole)))
  k_with "call ref" => ((k_here; (with_reducible show wpAny _ _ (call (Value.ref 51) [_]) _ _ _); k_dflt (refine' call_hint ?B ?F ?X ?T ?A ?f ?k ?r ?_; (case A => exact rfl); (case f => exact rfl); (case k => exact rfl); (case B => k_asm); (case F => k_asm); (case X => k_asm); (case T => k_asm); (case r => ktr_room); k_whole; intro ezz tzz Dzz hzz tkzz MHzz)))
  k_with "Exists" => ((k_here; (rename MadeH _ _ _ _ _ _ => mhXzz); refine ⟨_, _, _, _, _, rfl, Fr.keep (by k_asm), mhXzz, ?_⟩))
  k_with "leaving ref" => ((k_here; (rename MadeH _ _ _ _ _ _ => mhXzz); k_dflt (refine' leave_raiseH ?K mhXzz ?F ?N ?_; (case K => k_asm); (case F => k_asm); (case N => k_asm); k_whole; intro hzz Rzz Uzz)))
  k_with "execs cons" => first | (refine consQ ?_; intro q9)
  k_with "flowQ" => first | (refine flow_next ?_) | (refine flow_ret ?_)
  trivial
theorem pop_bad (m1 : (ST, instObj 425 SD) ∈ news) (m2 : (SD, sdObj h1 h2 t1 t2 most tm NUMS) ∈ news) (m3 : (NUMS, listOf vs.toArray k) ∈ news) (hv : IntsAre vs []) :
    CbE w mean mg mb 401 20 1000 news [.ref ST] news := by
  refine CbE_mk ?_; intro dpY unY gdY cnY csY acY ccY clY ouY a0Y baY h0Y LY mY shY sgY sdY skY soY QY EY aB aF aX aN aT akY adY auY hret
  have N2 := stk_pre aN m1 m2 m3
  clear aN m1 m2 m3
  k_dflt cell_enter
  k_steps
  all_goals ((rename RaisedS _ _ _ _ _ _ _ _ _ => rs); exact hret _ _ _ _ _ _ (by assumption) (Mine.RaisedS.sub rs (by intro p hp; first | ((repeat' (first | exact hp | apply List.Mem.tail)); done) | simp [hp])) (by assumption))
theorem push_bad {x : Int} {tx : Tok} (m1 : (ST, instObj 425 SD) ∈ news) (m2 : (SD, sdObj h1 h2 t1 t2 most tm NUMS) ∈ news) (m3 : (NUMS, listOf vs.toArray k) ∈ news) (hv : IntsAre vs xs) (hm : most ≤ 100) (hsz : most ≤ (vs.length : Int)) (hs2 : vs.length ≤ 100) :
    CbE w mean mg mb 394 20 1000 news [.ref ST, .int x tx] news := by
  refine CbE_mk ?_; intro dpY unY gdY cnY csY acY ccY clY ouY a0Y baY h0Y LY mY shY sgY sdY skY soY QY EY aB aF aX aN aT akY adY auY hret
  have N2 := stk_pre aN m1 m2 m3
  clear aN m1 m2 m3
  k_dflt cell_enter
  k_steps
  all_goals ((rename RaisedS _ _ _ _ _ _ _ _ _ => rs); exact hret _ _ _ _ _ _ (by assumption) (Mine.RaisedS.sub rs (by intro p hp; first | ((repeat' (first | exact hp | apply List.Mem.tail)); done) | simp [hp])) (by assumption))
theorem peek_bad {x : Int} {tx : Tok} (m1 : (ST, instObj 425 SD) ∈ news) (m2 : (SD, sdObj h1 h2 t1 t2 most tm NUMS) ∈ news) (m3 : (NUMS, listOf vs.toArray k) ∈ news) (hv : IntsAre vs xs) (hs2 : vs.length ≤ 100) (hx : x < 1 ∨ (vs.length : Int) < x) (hx2 : -(2^62) < x ∧ x < 2^62) :
    CbE w mean mg mb 408 20 1000 news [.ref ST, .int x tx] news := by
  refine CbE_mk ?_; intro dpY unY gdY cnY csY acY ccY clY ouY a0Y baY h0Y LY mY shY sgY sdY skY soY QY EY aB aF aX aN aT akY adY auY hret
  have N2 := stk_pre aN m1 m2 m3
  clear aN m1 m2 m3
  k_dflt cell_enter
  k_steps
  all_goals ((rename RaisedS _ _ _ _ _ _ _ _ _ => rs); exact hret _ _ _ _ _ _ (by assumption) (Mine.RaisedS.sub rs (by intro p hp; first | ((repeat' (first | exact hp | apply List.Mem.tail)); done) | simp [hp])) (by assumption))
end
end

section
open PySem PySem.W PyProof.Rows PySem.Calls
theorem kwTwo : True := by
  k_with_none
  w_top off
  trivial
section
variable {w : World} {mean : ExcName → Option Value} {mg mb : Str → Option Value} {f : Addr} {dd uu : Nat} {news news' : List (Addr × Obj)} {vs : List Value}
  {dp un : Nat} {gd : Option (List Code)} {cn : Str} {cs : Scope} {a : Addr} {ccd : Value} {cl : List (Str × Addr)} {outer : List Env} {A₀ : Around} {base h₀ : Heap} {L : Addr} {m : Str → Option Value} {s : Shared} {Q E : Value → Shared → Prop}
theorem kwTwo_1 : True := by
  k_with_none
  k_with "cell_enter" => ((refine' enterM ?k1 ?k2 ?k3 ?k4 ?k5 ?kA ?kF ?kK ?k6 ?k7 ?k8 ?k9 ?kB ?_ ?c2 ?c3 ?c4 ?c5; (case kA => exact rfl); (case kF => exact rfl); (case kK => assumption); (case k1 => k_asm); (case k2 => k_asm); (case k3 => k_asm); (case k4 => k_asm); (case k5 => k_asm); (case k6 => k_is); (case k7 => k_is); (case k8 => first | ktr_room | k_room); (case k9 => first | exact BindsTo.of_eq rfl | exact binds_K (by k_in) rfl (by k_is) rfl rfl rfl); (case c5 => decide); (case kB => exact locs rfl); (case c2 => exact rfl); (case c3 => exact rfl); (case c4 => exact rfl); k_whole; intro mqzz gqzz Lqzz hqzz tqzz FGqzz Fqzz Nqzz Bqzz Xqzz Tqzz qkqzz ekqzz))
  k_with "storeName" => ((k_dflt (refine' storeL ?F ?N ?a ?b ?_; (case F => k_asm); (case N => k_asm); (case a => rfl); (case b => rfl); k_whole; intro mszz hszz tszz Fszz Nszz; (try k_sweep))))
  k_with "leaveF" => ((k_dflt (first | (refine' leaveF_ret ?k1 ?k2 ?_; (case k1 => k_asm); (case k2 => k_asm); k_whole) | (refine' leaveF_next ?k1 ?k2 ?_; (case k1 => k_asm); (case k2 => k_asm); k_whole)); intro kFlzz kNlzz; ground_anew kFlzz))
  k_with "ktr_room" => (((try dsimp only [depth_under_make, depth_under_kw, depth_in1, depth_deeper]); first | exact room1 (by assumption) (by decide) | exact room2 (by assumption) (by decide) | exact room0 (by assumption) | exact room3 (by assumption) (by decide) | exact room4 (by assumption) (by decide)))
  k_with "ktr_units" => (((try dsimp only [units_under_make, units_in1, units_deeper, Around.mark_units]); first | exact room1 (by assumption) (by decide) | exact room2 (by assumption) (by decide) | exact room0 (by assumption) | exact room3 (by assumption) (by decide) | exact room4 (by assumption) (by decide)))
  k_with "k_ne" => ((refine neN ?_; (try dsimp only); first | assumption | exact Ne.symm (by assumption) | exact Nat.ne_of_gt (by assumption) | exact Nat.ne_of_lt (by assumption) | exact neP1 (by assumption) | exact neP2 (by assumption) | exact neP3 (by assumption) | exact neP4 (by assumption) | exact neP5 (by assumption)))
  trivial
theorem useC {pre : Prop} {R : Tok → Value} (c : Cb w mean mg mb f news [] pre vs R) (B : Below A₀ base outer h₀) (F : Fr h₀ L s.heap m) (X : (hd.heap_1 w.params).In h₀) (N : News h₀ L s.heap news) (T : Top hd.view_39 (looseW hd.view_39 [Str.ofString "HintWork"]) mean mg mb h₀)
    (hk : cs.kind = .function) (hp : pre) (hd' : dp + 1 < recursionLimit) (hu : un + 8 < cLine) (ret : ∀ t h' tk', Fr h₀ L h' m → News h₀ L h' news → Q (R t) { s with heap := h', toks := tk' }) :
    wpAny (model PySem.Challenge.rw_pf0201_01.row.prog w) (ktrTop dp un gd cn cs L a ccd cl outer) (call (.ref f) vs) Q E s :=
  c _ _ _ _ _ _ _ _ _ _ _ _ _ _ _ _ _ B F X N T hk hp hd' hu ret
end
theorem int_eq {x y : Int} {t : Tok} (e : x = y) : Value.int x t = Value.int y t := by rw [e]
noncomputable def twoS (c a b : Int) : Int := if c = 96 then a + b else if c = 97 then a - b else if c = 98 then cutdivS a b else if c = 99 then muldivS a b 64 else if c = 139 then (if a > b then a else b) else (if a < b then a else b)
section
variable {w : World} {mean : ExcName → Option Value} {mg mb : Str → Option Value}
theorem kwTwo_2 : True := by
  k_with_none
  k_with "cell_enter" => ((refine' enterM ?k1 ?k2 ?k3 ?k4 ?k5 ?kA ?kF ?kK ?k6 ?k7 ?k8 ?k9 ?kB ?_ ?c2 ?c3 ?c4 ?c5; (case kA => exact rfl); (case kF => exact rfl); (case kK => assumption); (case k1 => k_asm); (case k2 => k_asm); (case k3 => k_asm); (case k4 => k_asm); (case k5 => k_asm); (case k6 => k_is); (case k7 => k_is); (case k8 => first | ktr_room | k_room); (case k9 => first | exact BindsTo.of_eq rfl | exact binds_K (by k_in) rfl (by k_is) rfl rfl rfl); (case c5 => decide); (case kB => exact locs rfl); (case c2 => exact rfl); (case c3 => exact rfl); (case c4 => exact rfl); k_whole; intro mqzz gqzz Lqzz hqzz tqzz FGqzz Fqzz Nqzz Bqzz Xqzz Tqzz qkqzz ekqzz))
  k_with "storeName" => ((k_dflt (refine' storeL ?F ?N ?a ?b ?_; (case F => k_asm); (case N => k_asm); (case a => rfl); (case b => rfl); k_whole; intro mszz hszz tszz Fszz Nszz; (try k_sweep))))
  k_with "leaveF" => ((k_dflt (first | (refine' leaveF_ret ?k1 ?k2 ?_; (case k1 => k_asm); (case k2 => k_asm); k_whole) | (refine' leaveF_next ?k1 ?k2 ?_; (case k1 => k_asm); (case k2 => k_asm); k_whole)); intro kFlzz kNlzz; ground_anew kFlzz))
  k_with "ktr_room" => (((try dsimp only [depth_under_make, depth_under_kw, depth_in1, depth_deeper]); first | exact room1 (by assumption) (by decide) | exact room2 (by assumption) (by decide) | exact room0 (by assumption) | exact room3 (by assumption) (by decide) | exact room4 (by assumption) (by decide)))
  k_with "ktr_units" => (((try dsimp only [units_under_make, units_in1, units_deeper, Around.mark_units]); first | exact room1 (by assumption) (by decide) | exact room2 (by assumption) (by decide) | exact room0 (by assumption) | exact room3 (by assumption) (by decide) | exact room4 (by assumption) (by decide)))
  k_with "k_ne" => ((refine neN ?_; (try dsimp only); first | assumption | exact Ne.symm (by assumption) | exact Nat.ne_of_gt (by assumption) | exact Nat.ne_of_lt (by assumption) | exact neP1 (by assumption) | exact neP2 (by assumption) | exact neP3 (by assumption) | exact neP4 (by assumption) | exact neP5 (by assumption)))
  k_with "call ref" => ((k_here; (try dsimp only [List.nil_append, List.cons_append]); (with_reducible show wpAny _ _ (call (Value.ref 67) [Value.int _ _, Value.int _ _, Value.int _ _]) _ _ _); k_dflt (refine' useC (cutdiv_c _ _ _ _ _ _) ?B ?F ?X ?N ?T ?hk ?hp ?hd ?hu ?_; (case B => k_asm); (case F => k_asm); (case X => k_asm); (case N => k_asm); (case T => k_asm); (case hk => exact rfl); (case hp => (first | lia | omega)); (case hd => ktr_room); (case hu => ktr_units); k_whole; intro tzz hzz tkzz Fzz Nzz; (try k_sweep))))
  k_with "call ref" => ((k_here; (try dsimp only [List.nil_append, List.cons_append]); (with_reducible show wpAny _ _ (call (Value.ref 60) [Value.int _ _, Value.int _ _, Value.int _ _]) _ _ _); k_dflt (refine' useC (muldiv_c _ _ _ _ _ _ _) ?B ?F ?X ?N ?T ?hk ?hp ?hd ?hu ?_; (case B => k_asm); (case F => k_asm); (case X => k_asm); (case N => k_asm); (case T => k_asm); (case hk => exact rfl); (case hp => (first | lia | omega)); (case hd => ktr_room); (case hu => ktr_units); k_whole; intro tzz hzz tkzz Fzz Nzz; (try k_sweep))))
  k_with "cb_eq" => (first | (simp_all [twoS]; done) | (simp only [twoS]; (repeat' split) <;> first | rfl | (first | lia | omega)))
  trivial
theorem two_c (c a b : Int) (tc ta tb : Tok) (news : List (Addr × Obj)) (h1 : -(2^31) ≤ a ∧ a ≤ 2^31) (h2 : -(2^31) ≤ b ∧ b ≤ 2^31) (h3 : c ≠ 98 ∨ b ≠ 0) :
    CbM w mean mg mb 226 10 200 news [.int c tc, .int a ta, .int b tb] (fun n' r => n' = news ∧ ∃ t, r = .int (twoS c a b) t) := by
  refine CbM_mk ?_; intro dpY unY gdY cnY csY acY ccY clY ouY a0Y baY h0Y LY mY shY sgY sdY skY soY QY EY aB aF aX aN aT akY adY auY hret
  k_dflt cell_enter
  k_steps
  all_goals first | (exfalso; (first | lia | omega)) | (refine hret _ _ _ _ (by k_asm) (by k_asm) ⟨rfl, _, int_eq ?_⟩; cb_eq)
theorem kwTwo_3 : True := by
  k_with_none
  k_with "cell_enter" => ((refine' enterM ?k1 ?k2 ?k3 ?k4 ?k5 ?kA ?kF ?kK ?k6 ?k7 ?k8 ?k9 ?kB ?_ ?c2 ?c3 ?c4 ?c5; (case kA => exact rfl); (case kF => exact rfl); (case kK => assumption); (case k1 => k_asm); (case k2 => k_asm); (case k3 => k_asm); (case k4 => k_asm); (case k5 => k_asm); (case k6 => k_is); (case k7 => k_is); (case k8 => first | ktr_room | k_room); (case k9 => first | exact BindsTo.of_eq rfl | exact binds_K (by k_in) rfl (by k_is) rfl rfl rfl); (case c5 => decide); (case kB => exact locs rfl); (case c2 => exact rfl); (case c3 => exact rfl); (case c4 => exact rfl); k_whole; intro mqzz gqzz Lqzz hqzz tqzz FGqzz Fqzz Nqzz Bqzz Xqzz Tqzz qkqzz ekqzz))
  k_with "storeName" => ((k_dflt (refine' storeL ?F ?N ?a ?b ?_; (case F => k_asm); (case N => k_asm); (case a => rfl); (case b => rfl); k_whole; intro mszz hszz tszz Fszz Nszz; (try k_sweep))))
  k_with "leaveF" => ((k_dflt (first | (refine' leaveF_ret ?k1 ?k2 ?_; (case k1 => k_asm); (case k2 => k_asm); k_whole) | (refine' leaveF_next ?k1 ?k2 ?_; (case k1 => k_asm); (case k2 => k_asm); k_whole)); intro kFlzz kNlzz; ground_anew kFlzz))
  k_with "ktr_room" => (((try dsimp only [depth_under_make, depth_under_kw, depth_in1, depth_deeper]); first | exact room1 (by assumption) (by decide) | exact room2 (by assumption) (by decide) | exact room0 (by assumption) | exact room3 (by assumption) (by decide) | exact room4 (by assumption) (by decide)))
  k_with "ktr_units" => (((try dsimp only [units_under_make, units_in1, units_deeper, Around.mark_units]); first | exact room1 (by assumption) (by decide) | exact room2 (by assumption) (by decide) | exact room0 (by assumption) | exact room3 (by assumption) (by decide) | exact room4 (by assumption) (by decide)))
  k_with "k_ne" => ((refine neN ?_; (try dsimp only); first | assumption | exact Ne.symm (by assumption) | exact Nat.ne_of_gt (by assumption) | exact Nat.ne_of_lt (by assumption) | exact neP1 (by assumption) | exact neP2 (by assumption) | exact neP3 (by assumption) | exact neP4 (by assumption) | exact neP5 (by assumption)))
  k_with "call ref" => ((k_here; (try dsimp only [List.nil_append, List.cons_append]); (with_reducible show wpAny _ _ (call (Value.ref 67) [Value.int _ _, Value.int _ _, Value.int _ _]) _ _ _); k_dflt (refine' useC (cutdiv_c _ _ _ _ _ _) ?B ?F ?X ?N ?T ?hk ?hp ?hd ?hu ?_; (case B => k_asm); (case F => k_asm); (case X => k_asm); (case N => k_asm); (case T => k_asm); (case hk => exact rfl); (case hp => (first | lia | omega)); (case hd => ktr_room); (case hu => ktr_units); k_whole; intro tzz hzz tkzz Fzz Nzz; (try k_sweep))))
  k_with "call ref" => ((k_here; (try dsimp only [List.nil_append, List.cons_append]); (with_reducible show wpAny _ _ (call (Value.ref 60) [Value.int _ _, Value.int _ _, Value.int _ _]) _ _ _); k_dflt (refine' useC (muldiv_c _ _ _ _ _ _ _) ?B ?F ?X ?N ?T ?hk ?hp ?hd ?hu ?_; (case B => k_asm); (case F => k_asm); (case X => k_asm); (case N => k_asm); (case T => k_asm); (case hk => exact rfl); (case hp => (first | lia | omega)); (case hd => ktr_room); (case hu => ktr_units); k_whole; intro tzz hzz tkzz Fzz Nzz; (try k_sweep))))
  k_with "cb_eq" => (first | (simp_all [twoS]; done) | (simp only [twoS]; (repeat' split) <;> first | rfl | (first | lia | omega)))
  k_with "exec Raise some none" => ((k_here; k_dflt (refine' Raise_H ?X ?h ?_; (case X => k_asm); (case h => exact rfl); k_whole)))
  k_with "call ref" => ((k_here; (with_reducible show wpAny _ _ (call (Value.ref 51) [_]) _ _ _); k_dflt (refine' call_hint ?B ?F ?X ?T ?A ?f ?k ?r ?_; (case A => exact rfl); (case f => exact rfl); (case k => exact rfl); (case B => k_asm); (case F => k_asm); (case X => k_asm); (case T => k_asm); (case r => ktr_room); k_whole; intro ezz tzz Dzz hzz tkzz MHzz)))
  k_with "Exists" => ((k_here; (rename MadeH _ _ _ _ _ _ => mhXzz); refine ⟨_, _, _, _, _, rfl, Fr.keep (by k_asm), mhXzz, ?_⟩))
  k_with "leaving ref" => ((k_here; (rename MadeH _ _ _ _ _ _ => mhXzz); k_dflt (refine' leave_raiseH ?K mhXzz ?F ?N ?_; (case K => k_asm); (case F => k_asm); (case N => k_asm); k_whole; intro hzz Rzz Uzz)))
  trivial
theorem two_bad (a : Int) (tc ta tb : Tok) (news : List (Addr × Obj)) :
    CbE w mean mg mb 226 20 1000 news [.int 98 tc, .int a ta, .int 0 tb] news := by
  refine CbE_mk ?_; intro dpY unY gdY cnY csY acY ccY clY ouY a0Y baY h0Y LY mY shY sgY sdY skY soY QY EY aB aF aX aN aT akY adY auY hret
  k_dflt cell_enter
  k_steps
  all_goals ((rename RaisedS _ _ _ _ _ _ _ _ _ => rs); exact hret _ _ _ _ _ _ (by assumption) (Mine.RaisedS.sub rs (by intro p hp; first | ((repeat' (first | exact hp | apply List.Mem.tail)); done) | simp [hp])) (by assumption))
end
end

section
open PySem PySem.W PyProof.Rows PySem.Calls
theorem kwOpsH : True := by
  k_with_none
  w_top off
  trivial
/-- the places of a work's objects -/
structure WA where
  W : Nat
  WD : Nat
  ST : Nat
  SD : Nat
  NUMS : Nat
  h1 : Int
  h2 : Int
  t1 : Nat
  t2 : Nat
  tm : Nat
  hs : Nat → Int
  ts : Nat → Nat
  gs : Value
  z : Value
  cv : Value
  sto : Value
  pp : Value
  ps : Value
  sc : Value
noncomputable abbrev wdObj (a : WA) : Obj := dictOf [⟨a.hs 0, .str (Str.ofString "state") (a.ts 0), a.gs⟩, ⟨a.hs 1, .str (Str.ofString "stack") (a.ts 1), .ref a.ST⟩, ⟨a.hs 2, .str (Str.ofString "zones") (a.ts 2), a.z⟩, ⟨a.hs 3, .str (Str.ofString "cvt") (a.ts 3), a.cv⟩,
  ⟨a.hs 4, .str (Str.ofString "storage") (a.ts 4), a.sto⟩, ⟨a.hs 5, .str (Str.ofString "ppem") (a.ts 5), a.pp⟩, ⟨a.hs 6, .str (Str.ofString "point_size") (a.ts 6), a.ps⟩, ⟨a.hs 7, .str (Str.ofString "scale") (a.ts 7), a.sc⟩] 8
noncomputable abbrev led (a : WA) (N : Nat) (vs : List Value) (k : Nat) (rest : List (Addr × Obj)) : List (Addr × Obj) :=
  (a.W, instObj 476 a.WD) :: (a.WD, wdObj a) :: (a.ST, instObj 425 a.SD) :: (a.SD, sdObj a.h1 a.h2 a.t1 a.t2 8 a.tm N) :: (N, listOf vs.toArray k) :: rest
structure Chain (a : WA) (N : Nat) (rest : List (Addr × Obj)) : Prop where
  c1 : a.WD < a.W
  c2 : a.W < a.SD
  c3 : a.SD < a.ST
  c4 : a.ST < N
  r1 : ∀ p ∈ rest, p.1 ≠ N
  r2 : ∀ p ∈ rest, p.1 ≠ a.SD
/-- an op that ends well -/
noncomputable def OpOk (w : World) (mean : ExcName → Option Value) (mg mb : Str → Option Value) (f : Addr) (c : Int) (xs ys : List Int) : Prop :=
  ∀ (a : WA) (N : Nat) (tc : Tok) (vs : List Value) (k : Nat) (rest : List (Addr × Obj)), IntsAre vs xs → Chain a N rest →
    CbM w mean mg mb f 40 2000 (led a N vs k rest) [.ref a.W, .int c tc] (fun n' r => r = .none ∧ ∃ N' vs' k', IntsAre vs' ys ∧ Chain a N' rest ∧ n' = led a N' vs' k' rest)
/-- an op that raises HintFault -/
noncomputable def OpBad (w : World) (mean : ExcName → Option Value) (mg mb : Str → Option Value) (f : Addr) (c : Int) (xs : List Int) : Prop :=
  ∀ (a : WA) (N : Nat) (tc : Tok) (vs : List Value) (k : Nat) (rest : List (Addr × Obj)), IntsAre vs xs → Chain a N rest →
    CbE w mean mg mb f 40 2000 (led a N vs k rest) [.ref a.W, .int c tc] rest

theorem ints_inv {vs : List Value} {ys : List Int} {y : Int} (h : IntsAre vs (ys ++ [y])) : ∃ us t, vs = us ++ [Value.int y t] ∧ IntsAre us ys := by
  rcases ints_last h with ⟨-, e⟩ | ⟨us, y', t, zs, rfl, e, i⟩
  · simp at e
  · obtain ⟨rfl, e2⟩ := List.append_inj' e rfl
    obtain rfl : y = y' := by simpa using e2
    exact ⟨us, t, rfl, i⟩
theorem snoc_eq {us : List Value} {ys : List Int} {x y : Int} {t : Tok} (e : x = y) (h : IntsAre us ys) : IntsAre (us ++ [Value.int x t]) (ys ++ [y]) := by
  rw [e]; exact ints_snoc h _ _
theorem ints_nil {vs : List Value} (h : IntsAre vs []) : vs = [] := by
  have := h.length; simpa using this
section
variable {w : World} {mean : ExcName → Option Value} {mg mb : Str → Option Value} {f : Addr} {dd uu : Nat} {news news' : List (Addr × Obj)} {vs : List Value}
  {dp un : Nat} {gd : Option (List Code)} {cn : Str} {cs : Scope} {a : Addr} {ccd : Value} {cl : List (Str × Addr)} {outer : List Env} {A₀ : Around} {base h₀ : Heap} {L : Addr} {m : Str → Option Value} {s : Shared} {Q E : Value → Shared → Prop}
theorem useV {g : Tok → Value} (c : CbM w mean mg mb f dd uu news vs (fun n' r => n' = news' ∧ ∃ t, r = g t)) (B : Below A₀ base outer h₀) (F : Fr h₀ L s.heap m) (X : (hd.heap_1 w.params).In h₀) (N : News h₀ L s.heap news) (T : Top hd.view_39 (looseW hd.view_39 [Str.ofString "HintWork"]) mean mg mb h₀)
    (hk : cs.kind = .function) (hd' : dp + dd < recursionLimit) (hu : un + uu < cLine) (ret : ∀ t h' tk', Fr h₀ L h' m → News h₀ L h' news' → Q (g t) { s with heap := h', toks := tk' }) :
    wpAny (model PySem.Challenge.rw_pf0201_01.row.prog w) (ktrTop dp un gd cn cs L a ccd cl outer) (call (.ref f) vs) Q E s :=
  c _ _ _ _ _ _ _ _ _ _ _ _ _ _ _ _ _ B F X N T hk hd' hu fun r n' h' tk' F' N' hp => by
    obtain ⟨rfl, t, rfl⟩ := hp
    exact ret t h' tk' F' N'
theorem useE {kept : List (Addr × Obj)} (c : CbE w mean mg mb f dd uu news vs kept) (B : Below A₀ base outer h₀) (F : Fr h₀ L s.heap m) (X : (hd.heap_1 w.params).In h₀) (N : News h₀ L s.heap news) (T : Top hd.view_39 (looseW hd.view_39 [Str.ofString "HintWork"]) mean mg mb h₀)
    (hk : cs.kind = .function) (hd' : dp + dd < recursionLimit) (hu : un + uu < cLine)
    (ret : ∀ (G : Heap) (e t : Addr) (x : Value) (h' : Heap) (tk' : Nat), Fr h₀ L G m → RaisedS base G (envX cn cs L a ccd cl :: outer) e (.ref 51) t [x] kept h' → G.UpToSlots h' → E (.ref e) { s with heap := h', toks := tk' }) :
    wpAny (model PySem.Challenge.rw_pf0201_01.row.prog w) (ktrTop dp un gd cn cs L a ccd cl outer) (call (.ref f) vs) Q E s :=
  c _ _ _ _ _ _ _ _ _ _ _ _ _ _ _ _ _ B F X N T hk hd' hu ret
theorem useN {v : Value} (c : CbM w mean mg mb f dd uu news vs (fun n' r => n' = news' ∧ r = v)) (B : Below A₀ base outer h₀) (F : Fr h₀ L s.heap m) (X : (hd.heap_1 w.params).In h₀) (N : News h₀ L s.heap news) (T : Top hd.view_39 (looseW hd.view_39 [Str.ofString "HintWork"]) mean mg mb h₀)
    (hk : cs.kind = .function) (hd' : dp + dd < recursionLimit) (hu : un + uu < cLine) (ret : ∀ h' tk', Fr h₀ L h' m → News h₀ L h' news' → Q v { s with heap := h', toks := tk' }) :
    wpAny (model PySem.Challenge.rw_pf0201_01.row.prog w) (ktrTop dp un gd cn cs L a ccd cl outer) (call (.ref f) vs) Q E s :=
  c _ _ _ _ _ _ _ _ _ _ _ _ _ _ _ _ _ B F X N T hk hd' hu fun r n' h' tk' F' N' hp => by
    obtain ⟨rfl, rfl⟩ := hp
    exact ret h' tk' F' N'
end
theorem leave_onX {M : Model} {A : Around} {E : Value → Shared → Prop} {s' : Shared} {base g g₂ : Heap} {outer : List Env} {env : Env} {L e t : Addr} {m : Str → Option Value} {cls : Value} {vs : List Value} {Q : Unit → Shared → Prop} {news : List (Addr × Obj)}
    (K : Below A base outer g) (hf : env.frame = some L) (F : Fr g L g₂ m) (R : RaisedS base g₂ (env :: outer) e cls t vs news s'.heap) (hsm : g₂.UpToSlots s'.heap)
    (hQ : ∀ h', RaisedS base g outer e cls t vs news h' → g.UpToSlots h' → Q () { s' with heap := h' }) : wpAny M (A.deeper env) (leaving env (.ref e)) Q E s' := by
  obtain ⟨⟨B, hB, hBG, hl, hfl, hnew⟩, htup⟩ := R
  have mem : ∀ b, b ∈ (env :: outer).filterMap (·.frame) → b = L ∨ b ∈ outer.filterMap (·.frame) := fun b hm => by
    obtain ⟨en, he, hf'⟩ := List.mem_filterMap.mp hm
    rcases List.mem_cons.mp he with rfl | he
    · rw [hf] at hf'; exact .inl (Option.some.inj hf').symm
    · exact .inr (List.mem_filterMap.mpr ⟨en, he, hf'⟩)
  exact wpAny_leaves_onW (Around.frames_deeper K.stack) hf hfl fun h' x1 x2 =>
    have R : RaisedS base g outer e cls t vs news h' := ⟨⟨B, hB, fun b o q nm => hBG b o (F.keep b o q) (fun hm => by
      rcases mem b hm with z | z
      · rw [z, kts_self F] at q
        cases q
      · exact nm z), fun q hq => ⟨(hl q hq).1, kts_none F.keep (hl q hq).2.1, (hl q hq).2.2⟩, x1, hnew⟩, htup.of_slots x2⟩
    hQ h' R ((Heap.UpToSlots.of_keeps F.keep).trans (hsm.trans x2))
noncomputable def oneS (c y : Int) : Int := wrap32S (if c = 100 then (if y ≥ 0 then y else 0 - y) else if c = 101 then 0 - y else if c = 102 then floor6S y else ceiling6S y)
end

section
open PySem PySem.W PyProof.Rows PySem.Calls PySem.Spec
theorem kwDisp : True := by
  k_with_none
  w_top off
  trivial
section
variable {prog : Program} {w : World} {K : Type} [DecidableEq K] {knd : KeyKind prog w K} {A : Around} {E : Value → Shared → Prop} {s : Shared}
theorem ne17 {α : Type} {run : List α} {x : α} (h : run.length + 1 < 17) : ¬ ((run ++ [x]).length == 17) = true := by rw [List.length_append, List.length_singleton]; exact fun e => Nat.ne_of_lt h (beq_iff_eq.mp e)
theorem is17 {α : Type} {run : List α} {x : α} (h : run.length = 16) : ((run ++ [x]).length == 17) = true := by rw [List.length_append, List.length_singleton, h]; rfl
theorem notE {α : Type} {run : List α} {x : α} : ¬ (run ++ [x]).isEmpty = true := by cases run <;> exact Bool.false_ne_true
theorem notE2 {α : Type} {run : List α} (h : run ≠ []) : ¬ run.isEmpty = true := by
  cases run with
  | nil => exact absurd rfl h
  | cons _ _ => exact Bool.false_ne_true
theorem dictPut_pairs {d : Addr} {kvs : List (K × Value)} {k : K} {key v : Value} {Q : Unit → Shared → Prop} (hkey : knd.is k key = true) (hm : s.heap.DictOf knd d kvs)
    (hQ : ∀ h', h'.DictOf knd d (stored kvs k v) → Heap.SameBut d s.heap h' → Q () { s with heap := h' }) (hsz : kvs.length ≤ sizeLine) : wpAny (model prog w) A (dictPut d (knd.hash k) key v) Q E s := by
  obtain ⟨o, es, ep, ho, hc, hd, hk, hp, hn⟩ := hm
  have hes : es.size ≤ sizeLine := by
    have e1 := hp.length
    have e2 : es.toList.length = es.size := by simp
    (first | lia | omega)
  unfold dictPut
  refine wpAny_bind (wpAny_dictFind_of hkey ho hd hk ?_)
  have hidx : (es.findIdx? fun e => knd.is k e.key) = kvs.findIdx? fun kv => decide (kv.1 = k) := by
    rw [← hp.findIdx k]; obtain ⟨l⟩ := es; simp
  cases hi : es.findIdx? fun e => knd.is k e.key with
  | some i =>
    refine wpAny_updateDict ho hd (hQ _ ⟨_, _, ep, Heap.get?_update_self _ ho (Obj.isFreed_of_dict (Obj.data_mapDict hd _)),
      hc.mapDict _, Obj.data_mapDict hd _, hk.modify _ _, ?_, ?_⟩ (Heap.SameBut.update ..))
    · rw [stored, if_pos (any_of_findIdx_some (hidx ▸ hi))]
      have hl : (es.toList.findIdx? fun e => knd.is k e.key) = some i := by rw [← hi]; obtain ⟨l⟩ := es; simp
      have := hp.modify hn hl v
      obtain ⟨l⟩ := es
      simpa using this
    · rw [stored, if_pos (any_of_findIdx_some (hidx ▸ hi)), keys_map_store]; exact hn
  | none =>
    have hnot : k ∉ kvs.map (·.1) := not_mem_of_findIdx_none (hidx ▸ hi)
    have hany : ¬ (kvs.any fun kv => decide (kv.1 = k)) = true := by
      rw [List.any_eq_true]; rintro ⟨kv, hkv, he⟩
      exact hnot (List.mem_map.mpr ⟨kv, hkv, of_decide_eq_true he⟩)
    refine wpAny_updateDictKeys (hz := hes) ho hd (hQ _ ⟨_, _, ep + 1, Heap.get?_update_self _ ho (Obj.isFreed_of_dict (Obj.data_mapDictKeys hd _)),
      hc.mapDictKeys _, Obj.data_mapDictKeys hd _, hk.push hkey _, ?_, ?_⟩ (Heap.SameBut.update ..))
    · rw [stored, if_neg hany]
      have := hp.append hkey (knd.hash k) v
      obtain ⟨l⟩ := es
      simpa using this
    · rw [stored, if_neg hany, List.map_append, List.nodup_append]
      refine ⟨hn, by simp, ?_⟩
      intro a ha b hb
      simp only [List.map_cons, List.map_nil, List.mem_singleton] at hb
      subst hb
      exact fun e => hnot (e ▸ ha)
theorem dict_iter : typeLookup (.type "dict") "__iter__" = pure (some (.builtin "dict.__iter__")) := by rw [typeLookup_type, builtinLookup_eq_fast]; kernel_rfl
theorem dict_sub : isSubtype (.type "dict") (.type "dict") = pure true := isSubtype_of_subB (by decide +kernel)

theorem merge_loop {d a : Addr} {o2 : Obj} {es2 : Array DictEntry} {ep2 : Nat} (hd2 : o2.data = .dict es2 ep2) (hk2 : KeysOf knd es2) (hda : a ≠ d) : ∀ (n i : Nat) (suf acc : List (K × Value)) (s : Shared) (Q : PUnit → Shared → Prop), i + n = es2.size → Pairs knd (es2.toList.drop i) suf → s.heap.get? a = some o2 → s.heap.DictOf knd d acc → acc.length + suf.length ≤ sizeLine →
    (∀ h', h'.DictOf knd d (merged acc suf) → Heap.SameBut d s.heap h' → Q PUnit.unit { s with heap := h' }) →
    wpAny (model prog w) A (forIn (List.range' i n) PUnit.unit fun i (_ : PUnit) => (do
        let __do_lift ← dictEntries a
        match __do_lift[i]? with
          | some e => do
            holding [e.key, e.val] (dictPut d e.hash e.key e.val)
            let __do_lift ← dictEpoch a
            if (__do_lift != ep2) = true then do
                unsupported "dict.changed-during-merge"
                pure (ForInStep.yield PUnit.unit)
              else pure (ForInStep.yield PUnit.unit)
          | x => do
            unsupported "dict.changed-during-merge"
            pure (ForInStep.yield PUnit.unit) : Sem (ForInStep PUnit))) Q E s
  | 0, i, suf, acc, s, Q, hi, hp, ho, hm, hsz, hQ => by
    have e0 : es2.toList.drop i = [] := by
      apply List.drop_eq_nil_of_le; simp; (first | lia | omega)
    rw [e0] at hp
    cases hp
    show wpAny _ _ (forIn [] PUnit.unit _) Q E s
    rw [List.forIn_nil]
    exact wpAny_pure (hQ s.heap (by simpa [merged] using hm) (Heap.SameBut.refl _ _))
  | n + 1, i, suf, acc, s, Q, hi, hp, ho, hm, hsz, hQ => by
    have hlt : i < es2.size := by (first | lia | omega)
    have e1 : es2.toList.drop i = es2[i] :: es2.toList.drop (i + 1) := by
      rw [List.drop_eq_getElem_cons (by simpa using hlt)]; simp
    rw [e1] at hp
    rcases hp with _ | ⟨hkey, hval, hrest⟩
    rename_i kv suf
    obtain ⟨k', hk', hh'⟩ := hk2 es2[i] (Array.getElem_mem hlt)
    have ek : k' = kv.1 := knd.inj _ _ _ hk' hkey
    subst ek
    rw [List.range'_succ, List.forIn_cons]
    refine wpAny_bind (wpAny_bind (wpAny_dictEntries ho hd2 ?_))
    rw [Array.getElem?_eq_getElem hlt]
    dsimp only
    rw [List.length_cons] at hsz
    refine wpAny_bind (wpAny_holding ?_)
    rw [hh']
    refine dictPut_pairs hkey hm (fun h₁ hm₁ hs₁ => ?_) (by (first | lia | omega))
    have ho₁ : h₁.get? a = some o2 := (hs₁.2 a hda).trans ho
    refine wpAny_bind (wpAny_dictEpoch ho₁ hd2 ?_)
    simp only [bne_self_eq_false, Bool.false_eq_true, if_false]
    refine wpAny_pure ?_
    dsimp only
    refine merge_loop hd2 hk2 hda n (i + 1) suf (stored acc kv.1 es2[i].val) _ Q (by (first | lia | omega)) hrest ho₁ hm₁ (by have e := stored_length_le acc kv.1 es2[i].val; (first | lia | omega)) fun h' hm' hs' => ?_
    refine hQ h' ?_ (hs₁.trans hs')
    rw [hval] at hm'
    simpa [merged] using hm'
theorem merge_pairs {d a : Addr} {kv1 kv2 : List (K × Value)} {Q : Unit → Shared → Prop} (h1 : s.heap.DictOf knd d kv1) (h2 : s.heap.DictOf knd a kv2) (hda : a ≠ d) (hne : kv1 ≠ []) (hsys : (a == sysModules) = false) (hsz : kv1.length + kv2.length ≤ sizeLine)
    (hQ : ∀ h', h'.DictOf knd d (merged kv1 kv2) → Heap.SameBut d s.heap h' → Q () { s with heap := h' }) : wpAny (model prog w) A (mergeMapping d (.ref a) false) Q E s := by
  obtain ⟨o1, es1, ep1, ho1, hc1, hd1, hk1, hp1, hn1⟩ := h1
  obtain ⟨o2, es2, ep2, ho2, hc2, hd2, hk2, hp2, hn2⟩ := h2
  have hes1 : es1.isEmpty = false := by
    have e := hp1.length
    cases kv1 with
    | nil => exact absurd rfl hne
    | cons x xs => 
      simp only [List.length_cons, Array.length_toList] at e
      rw [Array.isEmpty]
      simp; intro e'; rw [e'] at e; simp at e
  unfold mergeMapping
  have hT : s.TypeIs (.ref a) "dict" := ⟨o2, ho2, hc2.1⟩
  refine wpAny_bind (wpAny_isInstance hT dict_sub (wpIfT rfl (wpAny_bind (wpAny_specialOf hT dict_iter (wpAny_bind (wpAny_pure ?_))))))

  refine wpIfF (by rw [hsys]; exact Bool.false_ne_true) ?_
  refine wpAny_bind (wpAny_dictEntries ho1 hd1 (wpIfF (by rw [hes1]; exact Bool.false_ne_true) ?_))
  refine wpAny_bind (wpAny_dictEntries ho2 hd2 (wpAny_bind (wpAny_dictEpoch ho2 hd2 ?_)))
  rw [List.range_eq_range']
  refine wpAny_bind (merge_loop hd2 hk2 hda es2.size 0 kv2 kv1 s _ (by (first | lia | omega)) (by simpa using hp2) ho2 ⟨o1, es1, ep1, ho1, hc1, hd1, hk1, hp1, hn1⟩ hsz fun h' hm' hs' => wpAny_pure (hQ h' hm' hs'))

/-- a display's pairs: the keys are of the kind, the values read while I holds -/
inductive PairT (knd : KeyKind prog w K) (A : Around) (I : Heap → Prop) : List (Sem Value × Sem Value) → List (K × Value) → Prop
  | nil : PairT knd A I [] []
  | cons {a b : Sem Value} {k : K} {v : Value} {ps : List (Sem Value × Sem Value)} {kvs : List (K × Value)} :
      (∀ (E : Value → Shared → Prop) (s : Shared) (Q : Value → Shared → Prop), (∀ x tk, knd.is k x = true → Q x { s with toks := tk }) → wpAny (model prog w) A a Q E s) →
      (∀ (E : Value → Shared → Prop) (s : Shared) (Q : Value → Shared → Prop), I s.heap → Q v s → wpAny (model prog w) A b Q E s) → PairT knd A I ps kvs → PairT knd A I ((a, b) :: ps) ((k, v) :: kvs)
theorem PairT.length {I : Heap → Prop} {ps : List (Sem Value × Sem Value)} {kvs : List (K × Value)} (h : PairT knd A I ps kvs) : kvs.length = ps.length := by
  induction h with
  | nil => rfl
  | cons _ _ _ ih => simp [ih]
theorem long_loop {d : Addr} {I : Heap → Prop} (hI : ∀ h h', I h → Heap.SameBut d h h' → I h') {pairs : List (Sem Value × Sem Value)} {kvs : List (K × Value)} (hp : PairT knd A I pairs kvs) :
    ∀ (acc : List (K × Value)) (s : Shared) (Q : PUnit → Shared → Prop), I s.heap → s.heap.DictOf knd d acc → acc.length + kvs.length ≤ sizeLine →
    (∀ h' tk, I h' → h'.DictOf knd d (merged acc kvs) → Heap.SameBut d s.heap h' → Q PUnit.unit { s with heap := h', toks := tk }) →
    wpAny (model prog w) A (forIn pairs PUnit.unit fun (x : Sem Value × Sem Value) (_ : PUnit) => (do
        let kv ← x.1
        let vv ← holding [kv] x.2
        holding [kv, vv] (dictSet d kv vv)
        pure (ForInStep.yield PUnit.unit) : Sem (ForInStep PUnit))) Q E s := by
  induction hp with
  | nil =>
    intro acc s Q hi hm _ hQ
    rw [List.forIn_nil]
    exact wpAny_pure (hQ s.heap s.toks hi (by simpa [merged] using hm) (Heap.SameBut.refl _ _))
  | @cons a b k v ps kvs hk hv _ ih =>
    intro acc s Q hi hm hsz hQ
    rw [List.length_cons] at hsz
    rw [List.forIn_cons]
    refine wpAny_bind (wpAny_bind (hk _ _ _ fun x tk hx => wpAny_bind (wpAny_holding (hv _ _ _ hi (wpAny_bind (wpAny_holding (wpAny_dictSet_pairs (hsz := by (first | lia | omega)) hx hm fun h₁ hm₁ hs₁ => wpAny_pure ?_)))))))
    dsimp only
    refine ih (stored acc k v) _ Q (hI _ _ hi hs₁) hm₁ (by have e := stored_length_le acc k v; (first | lia | omega)) fun h' tk' hi' hm' hs' => ?_
    exact hQ h' tk' hi' (by simpa [merged] using hm') (hs₁.trans hs')
theorem pairs_pure {I : Heap → Prop} {pairs : List (Sem Value × Sem Value)} {kvs : List (K × Value)} (hp : PairT knd A I pairs kvs) :
    ∀ (s : Shared) (Q : List (Value × Value) → Shared → Prop), I s.heap → (∀ vs tk, Carries knd vs kvs → Q vs { s with toks := tk }) → wpAny (model prog w) A (evalPairs pairs) Q E s := by
  induction hp with
  | nil => exact fun s Q _ hQ => evalPairs_nil (hQ [] s.toks trivial)
  | @cons a b k v ps kvs hk hv _ ih =>
    intro s Q hi hQ
    refine evalPairs_cons (hk _ _ _ fun x tk hx => hv _ _ _ hi (ih _ _ hi fun vs tk' hc => hQ _ tk' ⟨hx, rfl, hc⟩))
theorem sub_long {I : Heap → Prop} (hpush : ∀ h o, I h → I (h.push o)) (hI : ∀ h h', I h → Heap.SameBut s.heap.objs.size h h' → I h') {pairs : List (Sem Value × Sem Value)} {kvs : List (K × Value)} (hp : PairT knd A I pairs kvs) (hlen : 15 < pairs.length)
    (hsz : kvs.length ≤ sizeLine) {Q : Addr → Shared → Prop} (hi : I s.heap)
    (hQ : ∀ h' tk, I h' → h'.DictOf knd s.heap.objs.size (merged [] kvs) → Heap.SameBut s.heap.objs.size (s.heap.push { cls := .type "dict", data := .dict #[] }) h' → Q s.heap.objs.size { s with heap := h', toks := tk }) :
    wpAny (model prog w) A (subDict pairs) Q E s := by
  unfold subDict
  refine wpAny_bind (wpAny_alloc ?_)
  refine wpAny_bind (wpAny_holding ?_)
  rw [if_neg (by (first | lia | omega))]
  refine wpAny_bind (wpAny_rule ?_)
  refine wpAny_bind (long_loop (d := s.heap.objs.size) hI hp [] _ _ (hpush _ _ hi) (Heap.DictOf.new s.heap) (by simpa using hsz) fun h' tk hi' hm' hs' => wpAny_pure (wpAny_pure (hQ h' tk hi' hm' hs')))
theorem sub_short {I : Heap → Prop} (hpush : ∀ h o, I h → I (h.push o)) (hI : ∀ h h', I h → Heap.SameBut s.heap.objs.size h h' → I h') {pairs : List (Sem Value × Sem Value)} {kvs : List (K × Value)} (hp : PairT knd A I pairs kvs) (hlen : pairs.length ≤ 15)
    {Q : Addr → Shared → Prop} (hi : I s.heap)
    (hQ : ∀ h' tk, I h' → h'.DictOf knd s.heap.objs.size (merged [] kvs) → Heap.SameBut s.heap.objs.size (s.heap.push { cls := .type "dict", data := .dict #[] }) h' → Q s.heap.objs.size { s with heap := h', toks := tk }) :
    wpAny (model prog w) A (subDict pairs) Q E s :=
  wpAny_subDict (knd := knd) hlen (pairs_pure hp _ _ (hpush _ _ hi) fun vs tk hc => ⟨kvs, hc, Heap.DictOf.new s.heap, fun h' hm' hs' => hQ h' _ (hI _ _ (hpush _ _ hi) hs') hm' hs'⟩)
theorem forIn_pre (f : (Option (Sem Value) × Sem Value) → (Option Addr × List (Sem Value × Sem Value)) → Sem (ForInStep (Option Addr × List (Sem Value × Sem Value)))) (main : Option Addr)
    (hf : ∀ (p : Sem Value × Sem Value) (run : List (Sem Value × Sem Value)), run.length + 1 < 17 → f (some p.1, p.2) (main, run) = pure (.yield (main, run ++ [p]))) (tail : List (Option (Sem Value) × Sem Value)) :
    ∀ (items run : List (Sem Value × Sem Value)), run.length + items.length < 17 → forIn ((items.map fun p => (some p.1, p.2)) ++ tail) (main, run) f = forIn tail (main, run ++ items) f
  | [], run, _ => by simp
  | p :: rest, run, h => by
    rw [List.map_cons, List.cons_append, List.forIn_cons, hf p run (by simp at h; (first | lia | omega)), pure_bind]
    have := forIn_pre f main hf tail rest (run ++ [p]) (by simp at h ⊢; (first | lia | omega))
    simpa using this
theorem display_long {p1 p2 : List (Sem Value × Sem Value)} {x : Sem Value × Sem Value} {Q : Value → Shared → Prop} (h1 : p1.length = 16) (h2 : p2 ≠ []) (h3 : p2.length < 16) 
    (h : wpAny (model prog w) A (subDict (p1 ++ [x])) (fun d s₁ => wpAny (model prog w) A (subDict p2) (fun d2 s₂ => wpAny (model prog w) A (mergeMapping d (.ref d2) false) (fun _ s₃ => Q (.ref d) s₃) (fun e s₃ => False) s₂) E s₁) E s) :
    wpAny (model prog w) A (dictDisplay ((p1.map fun p => (some p.1, p.2)) ++ (some x.1, x.2) :: (p2.map fun p => (some p.1, p.2)))) Q E s := by
  refine wpAny_bind (wpEq (forIn_pre _ none (fun p run h => if_neg (ne17 h)) _ p1 [] (by rw [h1, List.length_nil]; decide)) ?_)
  rw [List.nil_append, List.forIn_cons]
  refine wpAny_bind (wpIfT (is17 h1) (wpAny_bind (wpIfF notE (wpAny_bind (wpAny_mono h (fun d s₁ hd => ?_) fun _ _ e => e)))))
  refine wpAny_pure (wpAny_pure ?_)
  refine wpEq ((congrArg (fun l => forIn (m := Sem) l _ _) (List.append_nil _).symm).trans (forIn_pre _ (some d) (fun p run h => if_neg (ne17 h)) [] p2 [] (by rw [List.length_nil]; omega))) ?_
  rw [List.nil_append, List.forIn_nil]
  refine wpAny_pure (wpAny_bind (wpIfF (notE2 h2) ?_))
  refine wpAny_bind (wpAny_holding (wpAny_mono hd (fun d2 s₂ hm => ?_) fun _ _ e => e))
  refine wpAny_bind (wpAny_onRaise (wpAny_holding (wpAny_mono hm (fun _ s₃ hq => ?_) fun _ _ e => e.elim)))
  exact wpAny_pure (wpAny_pure hq)
theorem Dict_long {keys : List (Option PySem.Expr)} {values : List PySem.Expr} {env : Env} {pos : Pos} {kvs : List (K × Value)} {I : Heap → Prop} {Q : Value → Shared → Prop} (hall : keys.all (·.isSome) = true) (hl : keys.length = values.length) (h17 : 17 < keys.length) (h33 : keys.length ≤ 32)
    (hp : PairT knd A I (pairTrees keys values env pos) kvs) (hi : I s.heap) (hpush : ∀ h o, I h → I (h.push o)) (hI : ∀ d h h', s.heap.objs.size ≤ d → I h → Heap.SameBut d h h' → I h') (hsys : sysModules < s.heap.objs.size)
    (hQ : ∀ h' tk, I h' → h'.DictOf knd s.heap.objs.size (merged (merged [] (kvs.take 17)) (merged [] (kvs.drop 17))) → (∀ b o, s.heap.get? b = some o → h'.get? b = some o) → Q (.ref s.heap.objs.size) { s with heap := h', toks := tk }) :
    wpAny (model prog w) A (eval (.Dict keys values pos) env) Q E s := by
  have hn := pairTrees_length keys values env pos hall hl
  rw [arm_eval_Dict, zip_pairTrees keys values env pos hall hl]
  refine wpAny_bind (wpAny_standAt ?_)
  generalize hps : pairTrees keys values env pos = ps at *
  have hsplit : ∃ p1 x p2 k1 k2, ps = p1 ++ x :: p2 ∧ p1.length = 16 ∧ kvs.take 17 = k1 ∧ kvs.drop 17 = k2 ∧ PairT knd A I (p1 ++ [x]) k1 ∧ PairT knd A I p2 k2 := by
    have tk : ∀ (n : Nat) (ps : List (Sem Value × Sem Value)) (kvs : List (K × Value)), PairT knd A I ps kvs → PairT knd A I (ps.take n) (kvs.take n) ∧ PairT knd A I (ps.drop n) (kvs.drop n) := by
      intro n
      induction n with
      | zero => intro ps kvs h; exact ⟨by simpa using PairT.nil, by simpa using h⟩
      | succ n ih =>
        intro ps kvs h
        cases h with
        | nil => exact ⟨by simpa using PairT.nil, by simpa using PairT.nil⟩
        | cons a b c => exact ⟨by simpa using PairT.cons a b (ih _ _ c).1, by simpa using (ih _ _ c).2⟩
    obtain ⟨q1, q2⟩ := tk 17 ps kvs hp
    have h16 : 16 < ps.length := by (first | lia | omega)
    refine ⟨ps.take 16, ps[16], ps.drop 17, _, _, ?_, by simp; (first | lia | omega), rfl, rfl, ?_, q2⟩
    · rw [← List.drop_eq_getElem_cons h16, List.take_append_drop]
    · rw [← List.take_succ_eq_append_getElem h16]; exact q1
  obtain ⟨p1, x, p2, k1, k2, rfl, l1, rfl, rfl, q1, q2⟩ := hsplit
  have hlp : p2.length + 17 = keys.length := by rw [← hn]; simp; (first | lia | omega)
  have hk1 := q1.length
  have hk2 := q2.length
  rw [List.map_append, List.map_cons]
  have hmle : ∀ (a b : List (K × Value)), (merged a b).length ≤ a.length + b.length := by
    intro a b
    induction b generalizing a with
    | nil => simp [merged]
    | cons c cs ih => 
      have e := stored_length_le a c.1 c.2
      have := ih (stored a c.1 c.2)
      simp only [merged, List.foldl_cons, List.length_cons] at this ⊢
      (first | lia | omega)
  refine display_long l1 (by rintro rfl; simp at hlp; (first | lia | omega)) (by (first | lia | omega)) ?_
  simp only [List.length_append, List.length_cons, List.length_nil] at hk1
  refine sub_long hpush (fun h h' a b => hI _ h h' (Nat.le_refl _) a b) q1 (by simp; (first | lia | omega)) (by rw [sizeLine_eq]; (first | lia | omega)) hi fun h₁ tk₁ hi₁ hd₁ hs₁ => ?_
  have sz₁ : h₁.objs.size = s.heap.objs.size + 1 := by rw [hs₁.1]; simp [Heap.push]
  refine sub_short (s := { s with heap := h₁, toks := tk₁ }) hpush (fun h h' a b => hI _ h h' (by show _ ≤ h₁.objs.size; (first | lia | omega)) a b) q2 (by (first | lia | omega)) hi₁ fun h₂ tk₂ hi₂ hd₂ hs₂ => ?_
  have hlt1 : s.heap.objs.size < h₁.objs.size := by rw [sz₁]; exact Nat.lt_succ_self _
  have hne : s.heap.objs.size ≠ h₁.objs.size := Nat.ne_of_lt hlt1
  have hd₁₂ : h₂.DictOf knd s.heap.objs.size (merged [] (List.take 17 kvs)) := (hd₁.push _).sameBut hs₂ hne
  have m1 := hmle [] (List.take 17 kvs)
  have m2 := hmle [] (List.drop 17 kvs)
  simp only [List.length_nil] at m1 m2
  refine merge_pairs (s := { s with heap := h₂, toks := tk₂ }) hd₁₂ hd₂ (Ne.symm hne) ?_ (beq_eq_false_iff_ne.mpr (Nat.ne_of_gt (Nat.lt_trans hsys hlt1))) (by rw [sizeLine_eq]; (first | lia | omega)) fun h₃ hd₃ hs₃ => ?_
  · intro e
    obtain ⟨o, es, ep, _, _, _, _, hpp, _⟩ := hd₁
    have : ∀ (b a : List (K × Value)), a ≠ [] → merged a b ≠ [] := by
      intro b
      induction b with
      | nil => intro a h; simpa [merged] using h
      | cons c cs ih => intro a h; exact ih _ (by show stored a c.1 c.2 ≠ []; unfold stored; split <;> simp [h])
    cases hkk : List.take 17 kvs with
    | nil => rw [hkk] at hk1; simp at hk1
    | cons c cs =>
      rw [hkk] at e
      exact this cs (stored [] c.1 c.2) (by simp [stored]) e
  · refine hQ h₃ tk₂ (hI _ _ _ (Nat.le_refl _) hi₂ hs₃) hd₃ fun b o ho => ?_
    have hb := Heap.lt_size ho
    rw [hs₃.2 b (Nat.ne_of_lt hb), hs₂.2 b (Nat.ne_of_lt (Nat.lt_trans hb hlt1))]
    refine Heap.get?_push_of_some _ ?_
    rw [hs₁.2 b (Nat.ne_of_lt hb)]
    exact Heap.get?_push_of_some _ ho
end
section
variable {prog : Program} {w : World} {A : Around} {E : Value → Shared → Prop} {s : Shared} {env : Env} {h₀ : Heap} {L d : Addr} {m : Str → Option Value} {news : List (Addr × Obj)}
theorem Dict_longF {keys : List (Option PySem.Expr)} {values : List PySem.Expr} {pos : Pos} {kvs : List (Int × Value)} {Q : Value → Shared → Prop} (F : Fr h₀ L s.heap m) (N : News h₀ L s.heap news) (hbig : h₀.NoLimit)
    (hall : keys.all (·.isSome) = true) (hl : keys.length = values.length) (h17 : 17 < keys.length) (h33 : keys.length ≤ 32)
    (hp : PairT (PySem.intKind prog w) A (fun h => Fr h₀ L h m) (pairTrees keys values env pos) kvs)
    (h : ∀ (d : Addr) h' o tk, Fr h₀ L h' m → News h₀ L h' ((d, o) :: news) → (∀ p ∈ news, p.1 < d) → (d == sysModules) = false → o.IsDictOf (PySem.intKind prog w) (merged (merged [] (kvs.take 17)) (merged [] (kvs.drop 17))) → Q (.ref d) { s with heap := h', toks := tk }) :
    wpAny (model prog w) A (eval (.Dict keys values pos) env) Q E s := by
  have hL : L < s.heap.objs.size := F.ns.lt
  refine Dict_long (knd := PySem.intKind prog w) hall hl h17 h33 hp F (fun h o f => f.push o) (fun d h h' hd f hs => f.change hs (Nat.ne_of_gt (Nat.lt_of_lt_of_le hL hd)) (Heap.get?_none_of_le (Nat.le_trans F.above (Nat.le_of_lt (Nat.lt_of_lt_of_le hL hd))))) (Nat.lt_trans (modules_low hbig) (Nat.lt_of_le_of_lt F.above hL)) fun h' tk F' hd' hk' => ?_
  obtain ⟨o, ho, hd⟩ := Heap.dictOf_iff.mp hd'
  exact h _ h' o tk F' (news_pushed F N hk' ho rfl) (fun p hp => Heap.lt_size (N p hp).1) (F.notModules (modules_low hbig)) hd
theorem key_int (n : Int) (k : Nat) (pos : Pos) (E : Value → Shared → Prop) (s : Shared) (Q : Value → Shared → Prop) (h : ∀ x tk, (PySem.intKind prog w).is n x = true → Q x { s with toks := tk }) : wpAny (model prog w) A (eval (.Constant (.int n) k pos) env) Q E s :=
  wpAny_Constant_int (h _ _ (by simp [PySem.intKind, Value.isInt]))
end
end

section
open PySem PySem.W PyProof.Rows PySem.Calls PySem.Spec
theorem kwLoopO : True := by
  k_with_none
  w_top off
  trivial
/-- the end of a turn of a loop of ours -/
noncomputable def TurnO (h₀ : Heap) (L : Addr) (m₀ : Str → Option Value) (x : Str) (own : List (Addr × Obj)) (J : List (Addr × Obj) → Prop) (s₁ : Shared) (f : Flow) (s₂ : Shared) : Prop :=
  f = .next ∧ ∃ (h' : Heap) (tk : Nat) (u : Str → Option Value) (nx : List (Addr × Obj)), s₂ = { s₁ with heap := h', toks := tk } ∧ Fr h₀ L h' (fun y => if y = x then u y else m₀ y) ∧ News h₀ L h' (own ++ nx) ∧ J nx
section
variable {prog : Program} {w : World} {A : Around} {E : Value → Shared → Prop} {s : Shared} {h₀ : Heap} {env : Env} {x : Str} {body : List Stmt} {Q : Flow → Shared → Prop} {m₀ : Str → Option Value} {news : List (Addr × Obj)}
theorem LoopAtV_mk {prog : Program} {w : World} {A : Around} {h₀ : Heap} {env : Env} {x : Str} {body : List Stmt} {Q : Flow → Shared → Prop} {E : Value → Shared → Prop} {s : Shared} {I : Addr} {fp wr : List Addr} {n : Nat} {P : Nat → Value → Prop} {St : Nat → Heap → Prop} {m : Str → Option Value} {news : List (Addr × Obj)} (J : Nat → (Str → Option Value) → List (Addr × Obj) → Prop)
    (W : Walks prog w A I fp wr n P St) (a : env.locals ∉ fp) (b : ∀ b ∈ wr, h₀.get? b = none) (c : ∀ p ∈ news, p.1 ∉ wr) (d : St 0 s.heap) (F : Fr h₀ env.locals s.heap m) (N : News h₀ env.locals s.heap news) (j : J 0 m news)
    (turn : ∀ i v m₁ nx own h tk, i < n → P i v → J i m₁ nx → (∀ p ∈ own, p.1 ∈ fp) → Fr h₀ env.locals h (fun y => if y = x then some v else m₁ y) → News h₀ env.locals h (own ++ nx) →
      wpAny (model prog w) A (execs body env) (LoopStepV h₀ env.locals wr own (J (i + 1)) { s with heap := h, toks := tk } (fun v s' => Q (.ret v) s') fun s' => Q .next s') E { s with heap := h, toks := tk })
    (done : ∀ h' tk m' nx, Fr h₀ env.locals h' m' → News h₀ env.locals h' nx → J n m' nx → Q .next { s with heap := h', toks := tk }) : LoopAtV prog w A h₀ env x body Q E (.ref I) s :=
  ⟨I, fp, wr, n, P, St, m, news, J, rfl, W, a, b, c, d, F, N, j, fun i v m₁ nx _ own ⟨h, tk, e⟩ hi hP hJ _ ho _ _ _ F₁ N₁ => e ▸ turn i v m₁ nx own h tk hi hP hJ ho (by subst e; exact F₁) (by subst e; exact N₁), fun h' tk m' nx F' N' _ hJ => done h' tk m' nx F' N' hJ⟩
theorem loopAtO {I : Addr} {fp : List Addr} {n : Nat} {P : Nat → Value → Prop} {St : Nat → Heap → Prop} (W : Walks prog w A I fp [I] n P St) (J : Nat → List (Addr × Obj) → Prop)
    (hLf : env.locals ∉ fp) (hI : h₀.get? I = none) (hst : St 0 s.heap) (F : Fr h₀ env.locals s.heap m₀) (N : News h₀ env.locals s.heap news) (hj : J 0 news) (hoff : ∀ p ∈ news, p.1 ∉ fp)
    (haddr : ∀ i nx, J i nx → nx.map (·.1) = news.map (·.1))
    (turn : ∀ i v nx h tk own, i < n → P i v → J i nx → OwnOff own (news.map (·.1)) → Fr h₀ env.locals h (fun y => if y = x then some v else m₀ y) → News h₀ env.locals h (own ++ nx) →
      wpAny (model prog w) A (execs body env) (TurnO h₀ env.locals m₀ x own (J (i + 1)) { s with heap := h, toks := tk }) E { s with heap := h, toks := tk })
    (done : ∀ (u : Str → Option Value) nx h tk, J n nx → Fr h₀ env.locals h (fun y => if y = x then u y else m₀ y) → News h₀ env.locals h nx → Q .next { s with heap := h, toks := tk }) :
    LoopAtV prog w A h₀ env x body Q E (.ref I) s := by
  have hsubI : I ∈ fp := W.sub _ (by simp)
  have notin : ∀ i nx, J i nx → ∀ p ∈ nx, p.1 ∉ fp := fun i nx hJ p hp => by
    have : p.1 ∈ news.map (·.1) := haddr i nx hJ ▸ List.mem_map_of_mem hp
    obtain ⟨q, hq, e⟩ := List.mem_map.mp this
    rw [← e]; exact hoff q hq
  refine LoopAtV_mk (fun i m nx => J i nx ∧ ∀ z, z ≠ x → m z = m₀ z) W hLf ?_ ?_ hst F N ⟨hj, fun _ _ => rfl⟩ ?_ ?_
  · intro b hb; rw [List.mem_singleton.mp hb]; exact hI
  · intro p hp hb; exact hoff p hp (List.mem_singleton.mp hb ▸ hsubI)
  · intro i v m₁ nx own h tk hi hP hJm hown F₁ N₁
    have e : (fun y => if y = x then some v else m₁ y) = fun y => if y = x then some v else m₀ y := by
      funext y
      by_cases hy : y = x
      · rw [if_pos hy, if_pos hy]
      · rw [if_neg hy, if_neg hy]; exact hJm.2 y hy
    rw [e] at F₁
    refine wpAny_mono (turn i v nx h tk own hi hP hJm.1 (fun p hp b hb q => ?_) F₁ N₁) (fun f s₂ h₂ => ?_) fun _ _ e => e
    · obtain ⟨r, hr, rfl⟩ := List.mem_map.mp hb
      exact hoff r hr (q ▸ hown p hp)
    · obtain ⟨rfl, h', tk', u, nx', rfl, F', N', hJ'⟩ := h₂
      exact .next ⟨rfl, h', tk', _, nx', rfl, F', N', fun p hp hb => notin _ _ hJ' p hp (List.mem_singleton.mp hb ▸ hsubI), hJ', fun z hz => if_neg hz⟩
  · intro h' tk m' nx F' N' hJm
    refine done m' nx h' tk hJm.1 ?_ N'
    have e : (fun y => if y = x then m' y else m₀ y) = m' := by
      funext y
      by_cases hy : y = x
      · rw [if_pos hy]
      · rw [if_neg hy]; exact (hJm.2 y hy).symm
    rw [e]; exact F'
theorem loopT {D : Addr} {o : Obj} {vs : List Value} {nn : Nat} (J : Nat → List (Addr × Obj) → Prop) (hh : A.handled = none) (hc : o.cls = .type "tuple") (hd : o.data = .seq vs.toArray nn)
    (F : Fr h₀ env.locals s.heap m₀) (N : News h₀ env.locals s.heap ((D, o) :: news)) (hj : J 0 news) (hD : ∀ p ∈ news, p.1 ≠ D)
    (haddr : ∀ i nx, J i nx → nx.map (·.1) = news.map (·.1))
    (turn : ∀ i v nx h tk own, vs[i]? = some v → J i nx → OwnOff own (news.map (·.1)) → Fr h₀ env.locals h (fun y => if y = x then some v else m₀ y) → News h₀ env.locals h (own ++ nx) →
      wpAny (model prog w) A (execs body env) (TurnO h₀ env.locals m₀ x own (J (i + 1)) { s with heap := h, toks := tk }) E { s with heap := h, toks := tk })
    (done : ∀ (u : Str → Option Value) nx h tk, J vs.length nx → Fr h₀ env.locals h (fun y => if y = x then u y else m₀ y) → News h₀ env.locals h nx → Q .next { s with heap := h, toks := tk }) :
    wpAny (model prog w) A (pyIter (.ref D)) (fun it s₂ => LoopAtV prog w A h₀ env x body Q E it s₂) E s := by
  have hDo := N _ (.head _)
  have hl : s.heap.IsTuple D vs.toArray := ⟨o, hDo.1, hc, nn, hd⟩
  have hlt : D < s.heap.objs.size := Heap.lt_size hDo.1
  refine wpAny_pyIter_tuple hl ?_
  have W := Walks.tuple (prog := prog) (w := w) hh s.heap.objs.size D (Nat.ne_of_lt hlt) vs.toArray
  refine loopAtO (s := { s with heap := s.heap.push { cls := .type "tuple_iterator", data := .fields #[.ref D, .int 0 0] } }) W J ?_ (next_is_new F) ⟨⟨_, Heap.get?_push_size _ rfl, rfl, rfl⟩, ⟨o, Heap.get?_push_of_some _ hDo.1, hc, nn, hd⟩⟩ (F.push _) (fun p hp => ⟨Heap.get?_push_of_some _ (N p (.tail _ hp)).1, (N p (.tail _ hp)).2⟩) hj ?_ haddr ?_ ?_
  · intro hm
    rcases List.mem_cons.mp hm with e | hm
    · exact absurd F.ns.lt (e ▸ Nat.lt_irrefl _)
    · exact hDo.2.1 (List.mem_singleton.mp hm).symm
  · intro p hp hm
    rcases List.mem_cons.mp hm with e | hm
    · exact absurd (Heap.lt_size (N p (.tail _ hp)).1) (e ▸ Nat.lt_irrefl _)
    · exact hD p hp (List.mem_singleton.mp hm)
  · intro i v nx h tk own _ hP hJ hoff F₁ N₁
    exact turn i v nx h tk own (by simpa using hP) hJ hoff F₁ N₁
  · intro u nx h tk hJ F' N'
    exact done u nx h tk (by simpa using hJ) F' N'
theorem loopR {r : Addr} {a b : Int} {t u v : Tok} {n : Nat} (J : Nat → List (Addr × Obj) → Prop) (hh : A.handled = none) (hr : IsRange s.heap r a b 1 t u v) (hsmall : Builtin.Range.small a b 1 = true) (hn : Builtin.Range.rangeSize a b 1 = (n : Int))
    (F : Fr h₀ env.locals s.heap m₀) (N : News h₀ env.locals s.heap news) (hj : J 0 news)
    (haddr : ∀ i nx, J i nx → nx.map (·.1) = news.map (·.1))
    (turn : ∀ i t nx h tk own, i < n → J i nx → OwnOff own (news.map (·.1)) → Fr h₀ env.locals h (fun y => if y = x then some (.int (a + i) t) else m₀ y) → News h₀ env.locals h (own ++ nx) →
      wpAny (model prog w) A (execs body env) (TurnO h₀ env.locals m₀ x own (J (i + 1)) { s with heap := h, toks := tk }) E { s with heap := h, toks := tk })
    (done : ∀ (u : Str → Option Value) nx h tk, J n nx → Fr h₀ env.locals h (fun y => if y = x then u y else m₀ y) → News h₀ env.locals h nx → Q .next { s with heap := h, toks := tk }) :
    wpAny (model prog w) A (pyIter (.ref r)) (fun it s₂ => LoopAtV prog w A h₀ env x body Q E it s₂) E s := by
  refine wpAny_pyIter_range hr hsmall ?_
  have W := Walks.range (prog := prog) (w := w) hh s.heap.objs.size a 1 n
  refine loopAtO (s := { s with heap := s.heap.push { cls := .type "range_iterator", data := .fields #[rawInt a, rawInt (Builtin.Range.rangeSize a b 1), rawInt 1] } }) W J ?_ (next_is_new F) ?_ (F.push _) (fun p hp => ⟨Heap.get?_push_of_some _ (N p hp).1, (N p hp).2⟩) hj ?_ haddr ?_ ?_
  · intro hm
    exact absurd F.ns.lt (List.mem_singleton.mp hm ▸ Nat.lt_irrefl _)
  · rw [hn]
    have e1 : a + ((0 : Nat) : Int) * 1 = a := by simp
    have e2 : (n : Int) - ((0 : Nat) : Int) = (n : Int) := by simp
    rw [e1, e2]
    exact Heap.get?_push_size _ rfl
  · intro p hp hm
    exact absurd (Heap.lt_size (N p hp).1) (List.mem_singleton.mp hm ▸ Nat.lt_irrefl _)
  · rintro i v nx h tk own hi ⟨t, rfl⟩ hJ hoff F₁ N₁
    rw [Int.mul_one] at F₁
    exact turn i t nx h tk own hi hJ hoff F₁ N₁
  · intro u nx h tk hJ F' N'
    exact done u nx h tk hJ F' N'
end
end

section
open PySem PySem.W PyProof.Rows PySem.Calls
theorem kwSops : True := by
  k_with_none
  w_top off
  trivial
theorem kwSops_1 : True := by
  k_with_none
  k_with "storeName" => ((k_dflt (refine' storeL ?F ?N ?a ?b ?_; (case F => k_asm); (case N => k_asm); (case a => rfl); (case b => rfl); k_whole; intro mszz hszz tszz Fszz Nszz; (try k_sweep))))
  k_with "leaveF" => ((k_dflt (first | (refine' leaveF_ret ?k1 ?k2 ?_; (case k1 => k_asm); (case k2 => k_asm); k_whole) | (refine' leaveF_next ?k1 ?k2 ?_; (case k1 => k_asm); (case k2 => k_asm); k_whole)); intro kFlzz kNlzz; ground_anew kFlzz))
  k_with "ktr_room" => (((try dsimp only [depth_under_make, depth_under_kw, depth_in1, depth_deeper]); first | exact room1 (by assumption) (by decide) | exact room2 (by assumption) (by decide) | exact room0 (by assumption) | exact room3 (by assumption) (by decide) | exact room4 (by assumption) (by decide)))
  k_with "ktr_units" => (((try dsimp only [units_under_make, units_in1, units_deeper, Around.mark_units]); first | exact room1 (by assumption) (by decide) | exact room2 (by assumption) (by decide) | exact room0 (by assumption) | exact room3 (by assumption) (by decide) | exact room4 (by assumption) (by decide)))
  k_with "k_ne" => ((refine neN ?_; (try dsimp only); first | assumption | exact Ne.symm (by assumption) | exact Nat.ne_of_gt (by assumption) | exact Nat.ne_of_lt (by assumption) | exact neP1 (by assumption) | exact neP2 (by assumption) | exact neP3 (by assumption) | exact neP4 (by assumption) | exact neP5 (by assumption)))
  k_with "k_all" => (assumption)
  k_with "ke_room" => (ktr_units)
  trivial
noncomputable def ops25 : List (Int × Value) := [(32, .ref 137), (33, .ref 144), (34, .ref 151), (35, .ref 158), (36, .ref 165), (37, .ref 172), (38, .ref 177), (138, .ref 184), (142, .ref 191), (79, .ref 144), (126, .ref 144), (127, .ref 144), (133, .ref 144), (141, .ref 144), (92, .ref 212), (86, .ref 219), (87, .ref 219), (66, .ref 261), (67, .ref 268), (68, .ref 275), (69, .ref 289), (112, .ref 282), (75, .ref 310), (76, .ref 310), (136, .ref 317)]
theorem val_name {prog : Program} {w : World} {A : Around} {K : Frag} {h₀ : Heap} {L a : Addr} {m mg mb : Str → Option Value} {cn : Str} {cs : Scope} {ccd : Value} {p : Program} {loose : List Str} {x : Str} {pos np : Pos} {v : Value}
    (X : K.In h₀) (T : TopRead p loose mg mb h₀) (e : nsIn K mainGlobals x = some (some v)) (hk : cs.kind = .function := by rfl) (hx : (envOf cn cs L a ccd).kindOf x = some .globalImplicit := by rfl) (hd : (x == ("__debug__" : Str)) = false := by decide) (E : Value → Shared → Prop) (s : Shared) (Q : Value → Shared → Prop) (F : Fr h₀ L s.heap m) (h : Q v s) :
    wpAny (model prog w) A (do let x ← eval (.Name x np) (envOf cn cs L a ccd); standAt pos; pure x) Q E s := wpAny_bind (name_K F X T e (wpAny_bind (wpAny_standAt (wpAny_pure h))) hk hx hd)
noncomputable def upds (kvs : List (Int × Value)) (cs : List Int) (v : Value) : List (Int × Value) := cs.foldl (fun acc c => stored acc c v) kvs
theorem upds_snoc (kvs : List (Int × Value)) (cs : List Int) (v : Value) (c : Int) : stored (upds kvs cs v) c v = upds kvs (cs ++ [c]) v := by simp [upds]
theorem upds_len (kvs : List (Int × Value)) (cs : List Int) (v : Value) : (upds kvs cs v).length ≤ kvs.length + cs.length := by
  induction cs generalizing kvs with
  | nil => simp [upds]
  | cons c cs ih =>
    have := ih (stored kvs c v)
    have e := stored_length_le kvs c v
    simp only [upds, List.foldl_cons, List.length_cons] at this ⊢
    omega
theorem sz_upds (kvs : List (Int × Value)) (cs : List Int) (v : Value) (i : Nat) (h : kvs.length + cs.length ≤ 1000) : (upds kvs (cs.take i) v).length ≤ sizeLine := by
  have h1 := upds_len kvs (cs.take i) v
  have h5 : (cs.take i).length ≤ cs.length := by rw [List.length_take]; exact Nat.min_le_right _ _
  rw [PySem.sizeLine_eq]; omega
noncomputable def upd4 (kvs : List (Int × Value)) (n : Nat) : List (Int × Value) := (List.range n).foldl (fun acc (j : Nat) => stored (stored acc (104 + (j : Int)) (.ref 247)) (108 + (j : Int)) (.ref 254)) kvs
theorem upd4_len (kvs : List (Int × Value)) (n : Nat) : (upd4 kvs n).length ≤ kvs.length + 2 * n := by
  induction n with
  | zero => simp [upd4]
  | succ n ih =>
    have e1 := stored_length_le (upd4 kvs n) (104 + (n : Int)) (.ref 247)
    have e2 := stored_length_le (stored (upd4 kvs n) (104 + (n : Int)) (.ref 247)) (108 + (n : Int)) (.ref 254)
    rw [upd4, List.range_succ, List.foldl_append]
    simp only [List.foldl_cons, List.foldl_nil]
    unfold upd4 at e1 e2 ih
    omega
theorem upd4_succ (kvs : List (Int × Value)) (n : Nat) : upd4 kvs (n + 1) = stored (stored (upd4 kvs n) (104 + (n : Int)) (.ref 247)) (108 + (n : Int)) (.ref 254) := by
  rw [upd4, List.range_succ, List.foldl_append]; rfl
theorem sz_upd4 (kvs : List (Int × Value)) (n : Nat) (h : n < 4) (hs : kvs.length ≤ 900) : (upd4 kvs n).length + 1 ≤ sizeLine := by
  have := upd4_len kvs n
  rw [PySem.sizeLine_eq]; omega
noncomputable def opsB : List (Int × Value) := upds ops25 [80, 81, 82, 83, 84, 85, 90, 91] (.ref 205)
noncomputable def opsC : List (Int × Value) := upds opsB [96, 97, 98, 99, 139, 140] (.ref 233)
noncomputable def opsD : List (Int × Value) := upds opsC [100, 101, 102, 103] (.ref 240)
noncomputable def opsE : List (Int × Value) := upd4 opsD 4
noncomputable def opsF : List (Int × Value) := upds opsE [115, 116, 117] (.ref 303)
noncomputable abbrev DictI (o : Obj) (kvs : List (Int × Value)) (w : World) : Prop := o.IsDictOf (PySem.intKind PySem.Challenge.rw_pf0201_01.row.prog w) kvs
theorem isInt_self (n : Int) (t : Tok) {prog : Program} {w : World} : (PySem.intKind prog w).is n (.int n t) = true := by simp [PySem.intKind, Value.isInt]
section
variable {w : World} {mean : ExcName → Option Value} {mg mb : Str → Option Value}
theorem sops_c (news : List (Addr × Obj)) : CbM w mean mg mb 324 40 2000 news [] (fun n' r => ∃ d o, r = .ref d ∧ n' = (d, o) :: news ∧ (∀ p ∈ news, p.1 < d) ∧ DictI o opsF w) := by
  refine CbM_mk ?_; intro dpY unY gdY cnY csY acY ccY clY ouY a0Y baY h0Y LY mY shY sgY sdY skY soY QY EY aB aF aX aN aT akY adY auY hret
  k_dflt (refine' enterM ?k1 ?k2 ?k3 ?k4 ?k5 ?kA ?kF ?kK ?k6 ?k7 ?k8 ?k9 ?kB ?_ ?c2 ?c3 ?c4 ?c5; (case kA => exact rfl); (case kF => exact rfl); (case kK => assumption); (case k1 => k_asm); (case k2 => k_asm); (case k3 => k_asm); (case k4 => k_asm); (case k5 => k_asm); (case k6 => k_is); (case k7 => k_is); (case k8 => first | ktr_room | k_room); (case k9 => first | exact BindsTo.of_eq rfl | exact binds_K (by k_in) rfl (by k_is) rfl rfl rfl); (case c5 => decide); (case kB => exact locs rfl); (case c2 => exact rfl); (case c3 => exact rfl); (case c4 => exact rfl); k_whole; intro mq g' L' hq tq FGq Fq Nq Bq Xq Tq qkq ekq)
  k_with_none
  k_with "storeName" => ((k_dflt (refine' storeL ?F ?N ?a ?b ?_; (case F => k_asm); (case N => k_asm); (case a => rfl); (case b => rfl); k_whole; intro mszz hszz tszz Fszz Nszz; (try k_sweep))))
  k_with "leaveF" => ((k_dflt (first | (refine' leaveF_ret ?k1 ?k2 ?_; (case k1 => k_asm); (case k2 => k_asm); k_whole) | (refine' leaveF_next ?k1 ?k2 ?_; (case k1 => k_asm); (case k2 => k_asm); k_whole)); intro kFlzz kNlzz; ground_anew kFlzz))
  k_with "ktr_room" => (((try dsimp only [depth_under_make, depth_under_kw, depth_in1, depth_deeper]); first | exact room1 (by assumption) (by decide) | exact room2 (by assumption) (by decide) | exact room0 (by assumption) | exact room3 (by assumption) (by decide) | exact room4 (by assumption) (by decide)))
  k_with "ktr_units" => (((try dsimp only [units_under_make, units_in1, units_deeper, Around.mark_units]); first | exact room1 (by assumption) (by decide) | exact room2 (by assumption) (by decide) | exact room0 (by assumption) | exact room3 (by assumption) (by decide) | exact room4 (by assumption) (by decide)))
  k_with "k_ne" => ((refine neN ?_; (try dsimp only); first | assumption | exact Ne.symm (by assumption) | exact Nat.ne_of_gt (by assumption) | exact Nat.ne_of_lt (by assumption) | exact neP1 (by assumption) | exact neP2 (by assumption) | exact neP3 (by assumption) | exact neP4 (by assumption) | exact neP5 (by assumption)))
  k_with "k_all" => (assumption)
  k_with "ke_room" => (ktr_units)
  k_with "execs cons" => (refine consQ ?_; intro q9)
  k_with "flowQ" => first | (refine flow_next ?_) | (refine flow_ret ?_)
  k_with "eval Dict" => (
    k_dflt (refine' Dict_longF (kvs := ops25) ?dF ?dN ?dB ?da ?dl ?d1 ?d2 ?dhp ?dh)
    (case dF => k_asm)
    (case dN => k_asm)
    (case dB => exact Top.nolimit (by k_asm))
    (case da => rfl)
    (case dl => rfl)
    (case d1 => exact Nat.le_of_ble_eq_true rfl)
    (case d2 => exact Nat.le_of_ble_eq_true rfl)
    (case dhp => k_dflt (repeat (first | exact PairT.nil | (refine' PairT.cons (key_int _ _ _) (val_name (K := hd.heap_1 w.params) (by k_asm) (topRead_of (by k_asm)) (by k_is)) ?_))))
    k_dflt (intro d9 h9 o9 tk9 F9 N9 l9 lo9 hd9; replace hd9 : DictI o9 ops25 w := hd9; have r0 : ∀ p ∈ news, p.1 ≠ d9 := fun p hp => Nat.ne_of_lt (l9 p hp)))
  k_with "exec For Name Tuple cons nil" => ((rename Fr _ _ _ _ => lF'); (with_unfolding_all refine' For_invVF lF' (by rfl) (by rfl) ?_); k_whole)
  k_with "TurnO" => (k_dflt ((rename Fr _ _ _ _ => lF'); (rename News _ _ _ _ => lN'); refine ⟨rfl, _, _, fun _ => some (.int c1 t1), (d9, o1) :: news, rfl, lF', fun p hp => lN' p (by rcases List.mem_append.mp hp with q | q; exact List.mem_cons_of_mem _ (List.mem_append_left _ q); rcases List.mem_cons.mp q with q | q; exact q ▸ List.mem_cons_self; exact List.mem_cons_of_mem _ (List.mem_append_right _ q)), o1, ?_, rfl⟩; rw [List.take_add_one, hc0]; rw [upds_snoc] at hd1; exact hd1))
  k_steps
  k_with "setItem ref int" => (k_dflt ((rename Fr _ _ _ _ => lF'); (rename News _ _ _ _ => lN'); (refine' kda_set lF' lN' (UpdF.head r9) hd0 (isInt_self _ _) (sz_upds ops25 [80, 81, 82, 83, 84, 85, 90, 91] (.ref 205) i0 (by decide +kernel)) ?_); intro h8 o1 F8 N8 hd1; (try dsimp only at N8)))
  rename News _ _ _ _ => lN'
  rename Fr _ _ _ _ => lF'
  rename (_ ∧ AllLt _ _) => l1
  k_dflt (refine loopT (fun i nx => ∃ o, DictI o (upds ops25 (List.take i [80, 81, 82, 83, 84, 85, 90, 91]) (.ref 205)) w ∧ nx = (d9, o) :: news) (by rfl) (by rfl) (by rfl) lF' lN' ⟨_, hd9, rfl⟩ ?_ (by rintro i nx ⟨o, -, rfl⟩; rfl) ?_ ?_)
  · intro p hp; rcases List.mem_cons.mp hp with rfl | hp; exact Nat.ne_of_lt l1.1; exact Nat.ne_of_lt (kst_ltOf l1.2 p hp)
  · intro i0 v9 nx h7 tk7 own hP hJ hoff F7 N7
    obtain ⟨o0, hd0, rfl⟩ := hJ
    obtain ⟨c1, t1, rfl, hc0⟩ := IntsAre.at (ns := [80, 81, 82, 83, 84, 85, 90, 91]) (by repeat constructor) i0 v9 hP
    replace F7 : Fr g' L' h7 _ := F7
    have r9 : ∀ p ∈ own ++ news, p.1 ≠ d9 := by
      intro p hp
      rcases List.mem_append.mp hp with q | q
      · exact hoff p q d9 (by simp)
      · exact r0 p q
    replace N7 : News g' L' h7 ((d9, o0) :: (own ++ news)) := fun p hp => N7 p (by
      rcases List.mem_cons.mp hp with q | q
      · exact List.mem_append_right _ (q ▸ List.mem_cons_self)
      · rcases List.mem_append.mp q with q | q
        · exact List.mem_append_left _ q
        · exact List.mem_append_right _ (List.mem_cons_of_mem _ q))
    clear lN' lF' l1
    k_steps
  intro u7 nx h7 tk7 hJ F7 N7
  obtain ⟨o7, hdB, rfl⟩ := hJ
  replace hdB : DictI o7 opsB w := hdB
  replace F7 : Fr g' L' h7 _ := F7
  replace N7 : News g' L' h7 _ := N7
  clear lN' lF' l1
  k_steps
  k_with "setItem ref int" => (k_dflt ((rename Fr _ _ _ _ => lF'); (rename News _ _ _ _ => lN'); (refine' kda_set lF' lN' (UpdF.head r9) hd0 (isInt_self _ _) (sz_upds opsB [96, 97, 98, 99, 139, 140] (.ref 233) i0 (by decide +kernel)) ?_); intro h8 o1 F8 N8 hd1; (try dsimp only at N8)))
  rename News _ _ _ _ => lN'
  rename Fr _ _ _ _ => lF'
  rename (_ ∧ AllLt _ _) => l1
  k_dflt (refine loopT (fun i nx => ∃ o, DictI o (upds opsB (List.take i [96, 97, 98, 99, 139, 140]) (.ref 233)) w ∧ nx = (d9, o) :: news) (by rfl) (by rfl) (by rfl) lF' lN' ⟨_, hdB, rfl⟩ ?_ (by rintro i nx ⟨o, -, rfl⟩; rfl) ?_ ?_)
  · intro p hp; rcases List.mem_cons.mp hp with rfl | hp; exact Nat.ne_of_lt l1.1; exact Nat.ne_of_lt (kst_ltOf l1.2 p hp)
  · intro i0 v9 nx h7 tk7 own hP hJ hoff F7 N7
    obtain ⟨o0, hd0, rfl⟩ := hJ
    obtain ⟨c1, t1, rfl, hc0⟩ := IntsAre.at (ns := [96, 97, 98, 99, 139, 140]) (by repeat constructor) i0 v9 hP
    replace F7 : Fr g' L' h7 _ := F7
    have r9 : ∀ p ∈ own ++ news, p.1 ≠ d9 := by
      intro p hp
      rcases List.mem_append.mp hp with q | q
      · exact hoff p q d9 (by simp)
      · exact r0 p q
    replace N7 : News g' L' h7 ((d9, o0) :: (own ++ news)) := fun p hp => N7 p (by
      rcases List.mem_cons.mp hp with q | q
      · exact List.mem_append_right _ (q ▸ List.mem_cons_self)
      · rcases List.mem_append.mp q with q | q
        · exact List.mem_append_left _ q
        · exact List.mem_append_right _ (List.mem_cons_of_mem _ q))
    clear lN' lF' l1
    k_steps
  intro u7 nx h7 tk7 hJ F7 N7
  obtain ⟨o7, hdC, rfl⟩ := hJ
  replace hdC : DictI o7 opsC w := hdC
  replace F7 : Fr g' L' h7 _ := F7
  replace N7 : News g' L' h7 _ := N7
  clear lN' lF' l1
  k_steps
  k_with "setItem ref int" => (k_dflt ((rename Fr _ _ _ _ => lF'); (rename News _ _ _ _ => lN'); (refine' kda_set lF' lN' (UpdF.head r9) hd0 (isInt_self _ _) (sz_upds opsC [100, 101, 102, 103] (.ref 240) i0 (by decide +kernel)) ?_); intro h8 o1 F8 N8 hd1; (try dsimp only at N8)))
  rename News _ _ _ _ => lN'
  rename Fr _ _ _ _ => lF'
  rename (_ ∧ AllLt _ _) => l1
  k_dflt (refine loopT (fun i nx => ∃ o, DictI o (upds opsC (List.take i [100, 101, 102, 103]) (.ref 240)) w ∧ nx = (d9, o) :: news) (by rfl) (by rfl) (by rfl) lF' lN' ⟨_, hdC, rfl⟩ ?_ (by rintro i nx ⟨o, -, rfl⟩; rfl) ?_ ?_)
  · intro p hp; rcases List.mem_cons.mp hp with rfl | hp; exact Nat.ne_of_lt l1.1; exact Nat.ne_of_lt (kst_ltOf l1.2 p hp)
  · intro i0 v9 nx h7 tk7 own hP hJ hoff F7 N7
    obtain ⟨o0, hd0, rfl⟩ := hJ
    obtain ⟨c1, t1, rfl, hc0⟩ := IntsAre.at (ns := [100, 101, 102, 103]) (by repeat constructor) i0 v9 hP
    replace F7 : Fr g' L' h7 _ := F7
    have r9 : ∀ p ∈ own ++ news, p.1 ≠ d9 := by
      intro p hp
      rcases List.mem_append.mp hp with q | q
      · exact hoff p q d9 (by simp)
      · exact r0 p q
    replace N7 : News g' L' h7 ((d9, o0) :: (own ++ news)) := fun p hp => N7 p (by
      rcases List.mem_cons.mp hp with q | q
      · exact List.mem_append_right _ (q ▸ List.mem_cons_self)
      · rcases List.mem_append.mp q with q | q
        · exact List.mem_append_left _ q
        · exact List.mem_append_right _ (List.mem_cons_of_mem _ q))
    clear lN' lF' l1
    k_steps
  intro u7 nx h7 tk7 hJ F7 N7
  obtain ⟨o7, hdD, rfl⟩ := hJ
  replace hdD : DictI o7 opsD w := hdD
  replace F7 : Fr g' L' h7 _ := F7
  replace N7 : News g' L' h7 _ := N7
  clear lN' lF' l1
  k_with "setItem ref int" => (k_dflt ((rename Fr _ _ _ _ => lF'); (rename News _ _ _ _ => lN'); (rename Obj.IsDictOf _ _ _ => hd0); (refine' kda_set lF' lN' (UpdF.head r9) hd0 (isInt_self _ _) (by have h5 := sz_upd4 opsD i0 hi0 (by decide +kernel); first | omega | (have h6 := stored_length_le (upd4 opsD i0) (104 + (i0 : Int)) (.ref 247); simp only [Int.zero_add]; omega)) ?_); intro h8 o1 F8 N8 hd1; (try dsimp only at N8)))
  k_with "TurnO" => (k_dflt ((rename Fr _ _ _ _ => lF'); (rename News _ _ _ _ => lN'); (rename Obj.IsDictOf _ _ _ => hd5); refine ⟨rfl, _, _, fun _ => some (.int (0 + (i0 : Int)) t0), (d9, _) :: news, rfl, lF', fun p hp => lN' p (by rcases List.mem_append.mp hp with q | q; exact List.mem_cons_of_mem _ (List.mem_append_left _ q); rcases List.mem_cons.mp q with q | q; exact q ▸ List.mem_cons_self; exact List.mem_cons_of_mem _ (List.mem_append_right _ q)), _, ?_, rfl⟩; rw [upd4_succ]; rw [Int.zero_add] at hd5; exact hd5))
  k_with "pyIter ref" => (
    rename News _ _ _ _ => lN'
    rename Fr _ _ _ _ => lF'
    rename IsRange _ _ _ _ _ _ _ _ => lR'
    k_dflt (refine loopR (n := 4) (fun i nx => ∃ o, DictI o (upd4 opsD i) w ∧ nx = (d9, o) :: news) (by rfl) lR' (by decide) (by rfl) lF' lN' ⟨_, hdD, rfl⟩ (by rintro i nx ⟨o, -, rfl⟩; rfl) ?_ ?_)
    k_dflt (
      intro i0 t0 nx h7 tk7 own hi0 hJ hoff F7 N7
      obtain ⟨o0, hd0, rfl⟩ := hJ
      replace F7 : Fr g' L' h7 _ := F7
      have r9 : ∀ p ∈ own ++ news, p.1 ≠ d9 := by
        intro p hp
        rcases List.mem_append.mp hp with q | q
        · exact hoff p q d9 (by simp)
        · exact r0 p q
      replace N7 : News g' L' h7 ((d9, o0) :: (own ++ news)) := fun p hp => N7 p (by
        rcases List.mem_cons.mp hp with q | q
        · exact List.mem_append_right _ (q ▸ List.mem_cons_self)
        · rcases List.mem_append.mp q with q | q
          · exact List.mem_append_left _ q
          · exact List.mem_append_right _ (List.mem_cons_of_mem _ q))
      clear lN' lF' lR')
    rotate_left
    k_dflt (
      intro u7 nx h7 tk7 hJ F7 N7
      obtain ⟨o7, hdE, rfl⟩ := hJ
      replace hdE : DictI o7 opsE w := hdE
      replace F7 : Fr g' L' h7 _ := F7
      replace N7 : News g' L' h7 _ := N7
      clear lN' lF' lR'))
  k_steps
  k_with_none
  k_with "storeName" => ((k_dflt (refine' storeL ?F ?N ?a ?b ?_; (case F => k_asm); (case N => k_asm); (case a => rfl); (case b => rfl); k_whole; intro mszz hszz tszz Fszz Nszz; (try k_sweep))))
  k_with "leaveF" => ((k_dflt (first | (refine' leaveF_ret ?k1 ?k2 ?_; (case k1 => k_asm); (case k2 => k_asm); k_whole) | (refine' leaveF_next ?k1 ?k2 ?_; (case k1 => k_asm); (case k2 => k_asm); k_whole)); intro kFlzz kNlzz; ground_anew kFlzz))
  k_with "ktr_room" => (((try dsimp only [depth_under_make, depth_under_kw, depth_in1, depth_deeper]); first | exact room1 (by assumption) (by decide) | exact room2 (by assumption) (by decide) | exact room0 (by assumption) | exact room3 (by assumption) (by decide) | exact room4 (by assumption) (by decide)))
  k_with "ktr_units" => (((try dsimp only [units_under_make, units_in1, units_deeper, Around.mark_units]); first | exact room1 (by assumption) (by decide) | exact room2 (by assumption) (by decide) | exact room0 (by assumption) | exact room3 (by assumption) (by decide) | exact room4 (by assumption) (by decide)))
  k_with "k_ne" => ((refine neN ?_; (try dsimp only); first | assumption | exact Ne.symm (by assumption) | exact Nat.ne_of_gt (by assumption) | exact Nat.ne_of_lt (by assumption) | exact neP1 (by assumption) | exact neP2 (by assumption) | exact neP3 (by assumption) | exact neP4 (by assumption) | exact neP5 (by assumption)))
  k_with "k_all" => (assumption)
  k_with "ke_room" => (ktr_units)
  k_with "execs cons" => (refine consQ ?_; intro q9)
  k_with "flowQ" => first | (refine flow_next ?_) | (refine flow_ret ?_)
  k_with "exec For Name Tuple cons nil" => ((rename Fr _ _ _ _ => lF'); (with_unfolding_all refine' For_invVF lF' (by rfl) (by rfl) ?_); k_whole)
  k_with "TurnO" => (k_dflt ((rename Fr _ _ _ _ => lF'); (rename News _ _ _ _ => lN'); refine ⟨rfl, _, _, fun _ => some (.int c1 t1), (d9, o1) :: news, rfl, lF', fun p hp => lN' p (by rcases List.mem_append.mp hp with q | q; exact List.mem_cons_of_mem _ (List.mem_append_left _ q); rcases List.mem_cons.mp q with q | q; exact q ▸ List.mem_cons_self; exact List.mem_cons_of_mem _ (List.mem_append_right _ q)), o1, ?_, rfl⟩; rw [List.take_add_one, hc0]; rw [upds_snoc] at hd1; exact hd1))
  k_with "setItem ref int" => (k_dflt ((rename Fr _ _ _ _ => lF'); (rename News _ _ _ _ => lN'); (refine' kda_set lF' lN' (UpdF.head r9) hd0 (isInt_self _ _) (sz_upds opsE [115, 116, 117] (.ref 303) i0 (by decide +kernel)) ?_); intro h8 o1 F8 N8 hd1; (try dsimp only at N8)))
  rename News _ _ _ _ => lN'
  rename Fr _ _ _ _ => lF'
  rename (_ ∧ AllLt _ _) => l1
  k_dflt (refine loopT (fun i nx => ∃ o, DictI o (upds opsE (List.take i [115, 116, 117]) (.ref 303)) w ∧ nx = (d9, o) :: news) (by rfl) (by rfl) (by rfl) lF' lN' ⟨_, hdE, rfl⟩ ?_ (by rintro i nx ⟨o, -, rfl⟩; rfl) ?_ ?_)
  · intro p hp; rcases List.mem_cons.mp hp with rfl | hp; exact Nat.ne_of_lt l1.1; exact Nat.ne_of_lt (kst_ltOf l1.2 p hp)
  · intro i0 v9 nx h7 tk7 own hP hJ hoff F7 N7
    obtain ⟨o0, hd0, rfl⟩ := hJ
    obtain ⟨c1, t1, rfl, hc0⟩ := IntsAre.at (ns := [115, 116, 117]) (by repeat constructor) i0 v9 hP
    replace F7 : Fr g' L' h7 _ := F7
    have r9 : ∀ p ∈ own ++ news, p.1 ≠ d9 := by
      intro p hp
      rcases List.mem_append.mp hp with q | q
      · exact hoff p q d9 (by simp)
      · exact r0 p q
    replace N7 : News g' L' h7 ((d9, o0) :: (own ++ news)) := fun p hp => N7 p (by
      rcases List.mem_cons.mp hp with q | q
      · exact List.mem_append_right _ (q ▸ List.mem_cons_self)
      · rcases List.mem_append.mp q with q | q
        · exact List.mem_append_left _ q
        · exact List.mem_append_right _ (List.mem_cons_of_mem _ q))
    clear lN' lF' l1
    k_steps
  intro u7 nx h7 tk7 hJ F7 N7
  obtain ⟨o7, hdF, rfl⟩ := hJ
  replace hdF : DictI o7 opsF w := hdF
  replace F7 : Fr g' L' h7 _ := F7
  replace N7 : News g' L' h7 _ := N7
  clear lN' lF' l1
  k_steps
  all_goals (rename News _ _ _ _ => kN; exact hret _ _ _ _ (by k_asm) kN ⟨d9, _, rfl, rfl, l9, hdF⟩)
end
end

section
open PySem PySem.W PyProof.Rows PySem.Calls
theorem kwSmall : True := by
  k_with_none
  w_top off
  trivial

theorem hide_led {a : WA} {N : Nat} {vs : List Value} {k : Nat} {rest : List (Addr × Obj)} {h₀ h : Heap} {L : Addr} (hc : Chain a N rest) (N0 : News h₀ L h (led a N vs k rest)) :
    ∃ R, R = (a.W, instObj 476 a.WD) :: (a.WD, wdObj a) :: (a.ST, instObj 425 a.SD) :: (a.SD, sdObj a.h1 a.h2 a.t1 a.t2 8 a.tm N) :: rest ∧ (a.W, instObj 476 a.WD) ∈ R ∧ (a.WD, wdObj a) ∈ R ∧ (a.ST, instObj 425 a.SD) ∈ R ∧ (a.SD, sdObj a.h1 a.h2 a.t1 a.t2 8 a.tm N) ∈ R ∧ (∀ p ∈ R, p.1 ≠ N) ∧ News h₀ L h ((N, listOf vs.toArray k) :: R) :=
  ⟨_, rfl, .head _, .tail _ (.head _), .tail _ (.tail _ (.head _)), .tail _ (.tail _ (.tail _ (.head _))), List.forall_mem_cons.mpr ⟨Nat.ne_of_lt (Nat.lt_trans hc.c2 (Nat.lt_trans hc.c3 hc.c4)), List.forall_mem_cons.mpr ⟨Nat.ne_of_lt (Nat.lt_trans hc.c1 (Nat.lt_trans hc.c2 (Nat.lt_trans hc.c3 hc.c4))), List.forall_mem_cons.mpr ⟨Nat.ne_of_lt hc.c4, List.forall_mem_cons.mpr ⟨Nat.ne_of_lt (Nat.lt_trans hc.c3 hc.c4), hc.r1⟩⟩⟩⟩, List.forall_mem_cons.mpr ⟨N0 _ (.tail _ (.tail _ (.tail _ (.tail _ (.head _))))), List.forall_mem_cons.mpr ⟨N0 _ (.head _), List.forall_mem_cons.mpr ⟨N0 _ (.tail _ (.head _)), List.forall_mem_cons.mpr ⟨N0 _ (.tail _ (.tail _ (.head _))), List.forall_mem_cons.mpr ⟨N0 _ (.tail _ (.tail _ (.tail _ (.head _)))), fun p hp => N0 p (.tail _ (.tail _ (.tail _ (.tail _ (.tail _ (hp))))))⟩⟩⟩⟩⟩⟩
theorem show_led {a : WA} {N : Nat} {vs : List Value} {k : Nat} {rest R news : List (Addr × Obj)} {h₀ h : Heap} {L : Addr} (hR : R = (a.W, instObj 476 a.WD) :: (a.WD, wdObj a) :: (a.ST, instObj 425 a.SD) :: (a.SD, sdObj a.h1 a.h2 a.t1 a.t2 8 a.tm N) :: rest) (N1 : News h₀ L h news) (hs : ∀ p ∈ (N, listOf vs.toArray k) :: R, p ∈ news) : News h₀ L h (led a N vs k rest) := by
  subst hR
  exact List.forall_mem_cons.mpr ⟨N1 _ (hs _ (.tail _ (.head _))), List.forall_mem_cons.mpr ⟨N1 _ (hs _ (.tail _ (.tail _ (.head _)))), List.forall_mem_cons.mpr ⟨N1 _ (hs _ (.tail _ (.tail _ (.tail _ (.head _))))), List.forall_mem_cons.mpr ⟨N1 _ (hs _ (.tail _ (.tail _ (.tail _ (.tail _ (.head _)))))), List.forall_mem_cons.mpr ⟨N1 _ (hs _ (.head _)), fun p hp => N1 p (hs p (.tail _ (.tail _ (.tail _ (.tail _ (.tail _ (hp)))))))⟩⟩⟩⟩⟩
theorem sub_led {a : WA} {N : Nat} {o : Obj} {rest R : List (Addr × Obj)} (hR : R = (a.W, instObj 476 a.WD) :: (a.WD, wdObj a) :: (a.ST, instObj 425 a.SD) :: (a.SD, sdObj a.h1 a.h2 a.t1 a.t2 8 a.tm N) :: rest) : ∀ p ∈ rest, p ∈ (N, o) :: R := fun p hp => by
  subst hR; exact .tail _ (.tail _ (.tail _ (.tail _ (.tail _ (hp)))))

section
variable {w : World} {mean : ExcName → Option Value} {mg mb : Str → Option Value} {f : Addr} {dd uu : Nat} {news news' : List (Addr × Obj)} {vs : List Value}
  {dp un : Nat} {gd : Option (List Code)} {cn : Str} {cs : Scope} {a : Addr} {ccd : Value} {cl : List (Str × Addr)} {outer : List Env} {A₀ : Around} {base h₀ : Heap} {L : Addr} {m : Str → Option Value} {s : Shared} {Q E : Value → Shared → Prop}
theorem kwSmall_1 : True := by
  k_with_none
  k_with "ktr_room" => (((try dsimp only [depth_under_make, depth_under_kw, depth_in1, depth_deeper]); first | exact room1 (by assumption) (by decide) | exact room2 (by assumption) (by decide) | exact room0 (by assumption) | exact room3 (by assumption) (by decide) | exact room4 (by assumption) (by decide)))
  k_with "ktr_units" => (((try dsimp only [units_under_make, units_in1, units_deeper, Around.mark_units]); first | exact room1 (by assumption) (by decide) | exact room2 (by assumption) (by decide) | exact room0 (by assumption) | exact room3 (by assumption) (by decide) | exact room4 (by assumption) (by decide)))
  k_with "k_ne" => ((refine neN ?_; (try dsimp only); first | assumption | exact Ne.symm (by assumption) | exact Nat.ne_of_gt (by assumption) | exact Nat.ne_of_lt (by assumption) | exact neP1 (by assumption) | exact neP2 (by assumption) | exact neP3 (by assumption) | exact neP4 (by assumption) | exact neP5 (by assumption)))
  k_with "k_mem" => (first | assumption | exact List.Mem.head _ | (refine' List.Mem.tail _ ?_; k_mem))
  k_with "k_all" => (first | assumption | (refine all1 ?_ (by assumption); k_ne) | (refine all2 ?_ ?_ (by assumption) <;> k_ne) | (refine all3 ?_ ?_ ?_ (by assumption) <;> k_ne))
  k_with "ke_room" => (ktr_units)
  trivial
theorem popE {aa : WA} {N0 : Nat} {y : Int} {ty : Tok} {xs : List Int} {k : Nat} {p1 p2 p3 p4 : Pos} {pl : Sem Bool} (B : Below A₀ base outer h₀) (F : Fr h₀ L s.heap m) (X : (hd.heap_1 w.params).In h₀) (N : News h₀ L s.heap news) (T : Top hd.view_39 (looseW hd.view_39 [Str.ofString "HintWork"]) mean mg mb h₀)
    (hm : m (Str.ofString "work") = some (.ref aa.W)) (mW : (aa.W, instObj 476 aa.WD) ∈ news) (mWD : (aa.WD, wdObj aa) ∈ news) (mST : (aa.ST, instObj 425 aa.SD) ∈ news) (mSD : (aa.SD, sdObj aa.h1 aa.h2 aa.t1 aa.t2 8 aa.tm N0) ∈ news)
    (U : Upd N0 (listOf (List.toArray (vs ++ [Value.int y ty])) k) (listOf vs.toArray (k + 1)) news news') (hv : IntsAre vs xs) (hs : vs.length ≤ 100)
    (hk : cs.kind = .function) (hx : (envX cn cs L a ccd cl).kindOf (Str.ofString "work") = some .local) (hd' : dp + 20 < recursionLimit) (hu : un + 1000 < cLine)
    (he : eval (.Call (.Attribute (.Attribute (.Name (Str.ofString "work") p1) (Str.ofString "stack") p2) (Str.ofString "pop") p3) [] [] p4) (envX cn cs L a ccd cl) = (do let ov ← eval (.Attribute (.Name (Str.ofString "work") p1) (Str.ofString "stack") p2) (envX cn cs L a ccd cl); standAt p3.atName; let (f, first) ← holding [ov] (getMethod ov (Str.ofString "pop") pl); callWith p4 f first (backTo p4 (starEach [] (envX cn cs L a ccd cl))) []))
    (ret : ∀ t h' tk', Fr h₀ L h' m → News h₀ L h' news' → Q (.int y t) { s with heap := h', toks := tk' }) :
    wpAny (model PySem.Challenge.rw_pf0201_01.row.prog w) (ktrTop dp un gd cn cs L a ccd cl outer) (eval (.Call (.Attribute (.Attribute (.Name (Str.ofString "work") p1) (Str.ofString "stack") p2) (Str.ofString "pop") p3) [] [] p4) (envX cn cs L a ccd cl)) Q E s := by
  k_with_none
  k_with "ktr_room" => (((try dsimp only [depth_under_make, depth_under_kw, depth_in1, depth_deeper]); first | exact room1 (by assumption) (by decide) | exact room2 (by assumption) (by decide) | exact room0 (by assumption) | exact room3 (by assumption) (by decide) | exact room4 (by assumption) (by decide)))
  k_with "ktr_units" => (((try dsimp only [units_under_make, units_in1, units_deeper, Around.mark_units]); first | exact room1 (by assumption) (by decide) | exact room2 (by assumption) (by decide) | exact room0 (by assumption) | exact room3 (by assumption) (by decide) | exact room4 (by assumption) (by decide)))
  k_with "k_ne" => ((refine neN ?_; (try dsimp only); first | assumption | exact Ne.symm (by assumption) | exact Nat.ne_of_gt (by assumption) | exact Nat.ne_of_lt (by assumption) | exact neP1 (by assumption) | exact neP2 (by assumption) | exact neP3 (by assumption) | exact neP4 (by assumption) | exact neP5 (by assumption)))
  k_with "k_mem" => (first | assumption | exact List.Mem.head _ | (refine' List.Mem.tail _ ?_; k_mem))
  k_with "k_all" => (first | assumption | (refine all1 ?_ (by assumption); k_ne) | (refine all2 ?_ ?_ (by assumption) <;> k_ne) | (refine all3 ?_ ?_ ?_ (by assumption) <;> k_ne))
  k_with "ke_room" => (ktr_units)
  k_with "eval Name" => (k_dflt (refine nameX_L F hm ?_ hk hx))
  k_with "call ref" => (k_dflt (refine' useV (g := fun t => Value.int _ t) (pop_ok mST mSD U hv hs) B (by k_asm) X (by k_asm) T hk hd' hu ?_; intro t h' tk' F' N'))
  refine MethodCall_ ?_ he
  k_steps
  all_goals exact ret _ _ _ (by assumption) (by assumption)
theorem popX {aa : WA} {N0 : Nat} {k : Nat} {p1 p2 p3 p4 : Pos} {pl : Sem Bool} (B : Below A₀ base outer h₀) (F : Fr h₀ L s.heap m) (X : (hd.heap_1 w.params).In h₀) (N : News h₀ L s.heap news) (T : Top hd.view_39 (looseW hd.view_39 [Str.ofString "HintWork"]) mean mg mb h₀)
    (hm : m (Str.ofString "work") = some (.ref aa.W)) (mW : (aa.W, instObj 476 aa.WD) ∈ news) (mWD : (aa.WD, wdObj aa) ∈ news) (mST : (aa.ST, instObj 425 aa.SD) ∈ news) (mSD : (aa.SD, sdObj aa.h1 aa.h2 aa.t1 aa.t2 8 aa.tm N0) ∈ news)
    (mN : (N0, listOf (List.toArray []) k) ∈ news)
    (hk : cs.kind = .function) (hx : (envX cn cs L a ccd cl).kindOf (Str.ofString "work") = some .local) (hd' : dp + 20 < recursionLimit) (hu : un + 1000 < cLine)
    (he : eval (.Call (.Attribute (.Attribute (.Name (Str.ofString "work") p1) (Str.ofString "stack") p2) (Str.ofString "pop") p3) [] [] p4) (envX cn cs L a ccd cl) = (do let ov ← eval (.Attribute (.Name (Str.ofString "work") p1) (Str.ofString "stack") p2) (envX cn cs L a ccd cl); standAt p3.atName; let (f, first) ← holding [ov] (getMethod ov (Str.ofString "pop") pl); callWith p4 f first (backTo p4 (starEach [] (envX cn cs L a ccd cl))) []))
    (ret : ∀ (G : Heap) (e t : Addr) (x : Value) (h' : Heap) (tk' : Nat), Fr h₀ L G m → RaisedS base G (envX cn cs L a ccd cl :: outer) e (.ref 51) t [x] news h' → G.UpToSlots h' → E (.ref e) { s with heap := h', toks := tk' }) :
    wpAny (model PySem.Challenge.rw_pf0201_01.row.prog w) (ktrTop dp un gd cn cs L a ccd cl outer) (eval (.Call (.Attribute (.Attribute (.Name (Str.ofString "work") p1) (Str.ofString "stack") p2) (Str.ofString "pop") p3) [] [] p4) (envX cn cs L a ccd cl)) Q E s := by
  k_with_none
  k_with "ktr_room" => (((try dsimp only [depth_under_make, depth_under_kw, depth_in1, depth_deeper]); first | exact room1 (by assumption) (by decide) | exact room2 (by assumption) (by decide) | exact room0 (by assumption) | exact room3 (by assumption) (by decide) | exact room4 (by assumption) (by decide)))
  k_with "ktr_units" => (((try dsimp only [units_under_make, units_in1, units_deeper, Around.mark_units]); first | exact room1 (by assumption) (by decide) | exact room2 (by assumption) (by decide) | exact room0 (by assumption) | exact room3 (by assumption) (by decide) | exact room4 (by assumption) (by decide)))
  k_with "k_ne" => ((refine neN ?_; (try dsimp only); first | assumption | exact Ne.symm (by assumption) | exact Nat.ne_of_gt (by assumption) | exact Nat.ne_of_lt (by assumption) | exact neP1 (by assumption) | exact neP2 (by assumption) | exact neP3 (by assumption) | exact neP4 (by assumption) | exact neP5 (by assumption)))
  k_with "k_mem" => (first | assumption | exact List.Mem.head _ | (refine' List.Mem.tail _ ?_; k_mem))
  k_with "k_all" => (first | assumption | (refine all1 ?_ (by assumption); k_ne) | (refine all2 ?_ ?_ (by assumption) <;> k_ne) | (refine all3 ?_ ?_ ?_ (by assumption) <;> k_ne))
  k_with "ke_room" => (ktr_units)
  k_with "eval Name" => (k_dflt (refine nameX_L F hm ?_ hk hx))
  k_with "call ref" => (k_dflt (refine' useE (pop_bad mST mSD mN IntsAre.nil) B (by k_asm) X (by k_asm) T hk hd' hu ?_; intro G' e' t' x' h' tk' F' R' U'))
  refine MethodCall_ ?_ he
  k_steps
  all_goals exact ret _ _ _ _ _ _ (by assumption) (by assumption) (by assumption)
theorem pushN {aa : WA} {N0 : Nat} {y : Int} {ty : Tok} {xs : List Int} {k : Nat} {x : Str} {p5 : Pos} {p1 p2 p3 p4 : Pos} {pl : Sem Bool} (B : Below A₀ base outer h₀) (F : Fr h₀ L s.heap m) (X : (hd.heap_1 w.params).In h₀) (N : News h₀ L s.heap news) (T : Top hd.view_39 (looseW hd.view_39 [Str.ofString "HintWork"]) mean mg mb h₀)
    (hm : m (Str.ofString "work") = some (.ref aa.W)) (mW : (aa.W, instObj 476 aa.WD) ∈ news) (mWD : (aa.WD, wdObj aa) ∈ news) (mST : (aa.ST, instObj 425 aa.SD) ∈ news) (mSD : (aa.SD, sdObj aa.h1 aa.h2 aa.t1 aa.t2 8 aa.tm N0) ∈ news)
    (U : Upd N0 (listOf vs.toArray k) (listOf (List.toArray (vs ++ [Value.int y ty])) (k + 1)) news news') (hv : IntsAre vs xs) (hs : (vs.length : Int) < 8)
    (hm2 : m x = some (.int y ty)) (hx2 : (envX cn cs L a ccd cl).kindOf x = some .local) (hb : (x == ("__debug__" : Str)) = false)
    (hk : cs.kind = .function) (hx : (envX cn cs L a ccd cl).kindOf (Str.ofString "work") = some .local) (hd' : dp + 20 < recursionLimit) (hu : un + 1000 < cLine)
    (he : eval (.Call (.Attribute (.Attribute (.Name (Str.ofString "work") p1) (Str.ofString "stack") p2) (Str.ofString "push") p3) [.Name x p5] [] p4) (envX cn cs L a ccd cl) = (do let ov ← eval (.Attribute (.Name (Str.ofString "work") p1) (Str.ofString "stack") p2) (envX cn cs L a ccd cl); standAt p3.atName; let (f, first) ← holding [ov] (getMethod ov (Str.ofString "push") pl); callWith p4 f first (backTo p4 (starEach [.Name x p5] (envX cn cs L a ccd cl))) []))
    (ret : ∀ h' tk', Fr h₀ L h' m → News h₀ L h' news' → Q .none { s with heap := h', toks := tk' }) :
    wpAny (model PySem.Challenge.rw_pf0201_01.row.prog w) (ktrTop dp un gd cn cs L a ccd cl outer) (eval (.Call (.Attribute (.Attribute (.Name (Str.ofString "work") p1) (Str.ofString "stack") p2) (Str.ofString "push") p3) [.Name x p5] [] p4) (envX cn cs L a ccd cl)) Q E s := by
  k_with_none
  k_with "ktr_room" => (((try dsimp only [depth_under_make, depth_under_kw, depth_in1, depth_deeper]); first | exact room1 (by assumption) (by decide) | exact room2 (by assumption) (by decide) | exact room0 (by assumption) | exact room3 (by assumption) (by decide) | exact room4 (by assumption) (by decide)))
  k_with "ktr_units" => (((try dsimp only [units_under_make, units_in1, units_deeper, Around.mark_units]); first | exact room1 (by assumption) (by decide) | exact room2 (by assumption) (by decide) | exact room0 (by assumption) | exact room3 (by assumption) (by decide) | exact room4 (by assumption) (by decide)))
  k_with "k_ne" => ((refine neN ?_; (try dsimp only); first | assumption | exact Ne.symm (by assumption) | exact Nat.ne_of_gt (by assumption) | exact Nat.ne_of_lt (by assumption) | exact neP1 (by assumption) | exact neP2 (by assumption) | exact neP3 (by assumption) | exact neP4 (by assumption) | exact neP5 (by assumption)))
  k_with "k_mem" => (first | assumption | exact List.Mem.head _ | (refine' List.Mem.tail _ ?_; k_mem))
  k_with "k_all" => (first | assumption | (refine all1 ?_ (by assumption); k_ne) | (refine all2 ?_ ?_ (by assumption) <;> k_ne) | (refine all3 ?_ ?_ ?_ (by assumption) <;> k_ne))
  k_with "ke_room" => (ktr_units)
  k_with "eval Name" => first
    | (k_dflt (refine nameX_L F hm ?_ hk hx))
    | (k_dflt (refine nameX_L (by k_asm) hm2 ?_ hk hx2 hb))
  k_with "call ref" => (k_dflt (refine' useN (push_ok mST mSD U hv (by decide) hs) B (by k_asm) X (by k_asm) T hk hd' hu ?_; intro h' tk' F' N'))
  refine MethodCall_ ?_ he
  k_steps
  all_goals exact ret _ _ (by assumption) (by assumption)
/-- an op's walk, its ledger hidden but for the stack's list -/
noncomputable abbrev OkW (w : World) (mean : ExcName → Option Value) (mg mb : Str → Option Value) (f : Addr) (c : Int) (us : List Value) (ys : List Int) : Prop :=
  ∀ (a : WA) (N : Nat) (tc : Tok) (k : Nat) (R : List (Addr × Obj)) (dp un : Nat) (gd : Option (List Code)) (cn : Str) (cs : Scope) (ad : Addr) (ccd : Value) (cl : List (Str × Addr)) (outer : List Env) (A₀ : Around) (base h₀ : Heap) (L : Addr) (m : Str → Option Value) (h : Heap) (gn : Array GenState) (dr : Drawn) (tk : Nat) (os : OsState) (Q E : Value → Shared → Prop),
    (a.W, instObj 476 a.WD) ∈ R → (a.WD, wdObj a) ∈ R → (a.ST, instObj 425 a.SD) ∈ R → (a.SD, sdObj a.h1 a.h2 a.t1 a.t2 8 a.tm N) ∈ R → (∀ p ∈ R, p.1 ≠ N) →
    Below A₀ base outer h₀ → Fr h₀ L h m → (hd.heap_1 w.params).In h₀ → News h₀ L h ((N, listOf us.toArray k) :: R) → Top hd.view_39 (looseW hd.view_39 [Str.ofString "HintWork"]) mean mg mb h₀ → cs.kind = .function →
    dp + 40 < recursionLimit → un + 2000 < cLine →
    (∀ (us' : List Value) (k' : Nat) (h' : Heap) (tk' : Nat), Fr h₀ L h' m → News h₀ L h' ((N, listOf us'.toArray k') :: R) → IntsAre us' ys → Q .none ⟨h', gn, dr, tk', os⟩) →
      wpAny (model PySem.Challenge.rw_pf0201_01.row.prog w) (ktrTop dp un gd cn cs L ad ccd cl outer) (call (.ref f) [.ref a.W, .int c tc]) Q E ⟨h, gn, dr, tk, os⟩
/-- the same of an op that raises -/
noncomputable abbrev BadW (w : World) (mean : ExcName → Option Value) (mg mb : Str → Option Value) (f : Addr) (c : Int) (us : List Value) : Prop :=
  ∀ (a : WA) (N : Nat) (tc : Tok) (k : Nat) (R : List (Addr × Obj)) (dp un : Nat) (gd : Option (List Code)) (cn : Str) (cs : Scope) (ad : Addr) (ccd : Value) (cl : List (Str × Addr)) (outer : List Env) (A₀ : Around) (base h₀ : Heap) (L : Addr) (m : Str → Option Value) (h : Heap) (gn : Array GenState) (dr : Drawn) (tk : Nat) (os : OsState) (Q E : Value → Shared → Prop),
    (a.W, instObj 476 a.WD) ∈ R → (a.WD, wdObj a) ∈ R → (a.ST, instObj 425 a.SD) ∈ R → (a.SD, sdObj a.h1 a.h2 a.t1 a.t2 8 a.tm N) ∈ R → (∀ p ∈ R, p.1 ≠ N) →
    Below A₀ base outer h₀ → Fr h₀ L h m → (hd.heap_1 w.params).In h₀ → News h₀ L h ((N, listOf us.toArray k) :: R) → Top hd.view_39 (looseW hd.view_39 [Str.ofString "HintWork"]) mean mg mb h₀ → cs.kind = .function →
    dp + 40 < recursionLimit → un + 2000 < cLine →
    (∀ (G : Heap) (e t : Addr) (x : Value) (h' : Heap) (tk' : Nat) (o : Obj), Fr h₀ L G m → RaisedS base G (envX cn cs L ad ccd cl :: outer) e (.ref 51) t [x] ((N, o) :: R) h' → G.UpToSlots h' → E (.ref e) ⟨h', gn, dr, tk', os⟩) →
      wpAny (model PySem.Challenge.rw_pf0201_01.row.prog w) (ktrTop dp un gd cn cs L ad ccd cl outer) (call (.ref f) [.ref a.W, .int c tc]) Q E ⟨h, gn, dr, tk, os⟩
theorem ok0 {f : Addr} {c : Int} {xs ys : List Int} (H : ∀ vs, IntsAre vs xs → vs.length = xs.length → OkW w mean mg mb f c vs ys) : OpOk w mean mg mb f c xs ys := by
  intro a N tc vs k rest hv hc
  unfold CbM
  intro dp un gd cn cs ad ccd cl outer A₀ base h₀ L m s Q E B F X N0 T hk hd' hu ret
  obtain ⟨R, hR, mW, mWD, mST, mSD, oN, N1⟩ := hide_led hc N0
  exact H vs hv hv.length a N tc k R dp un gd cn cs ad ccd cl outer A₀ base h₀ L m s.heap s.gens s.drawn s.toks s.os Q E mW mWD mST mSD oN B F X N1 T hk hd' hu fun us' k' h' tk' F' N' i' => ret _ (led a N us' k' rest) _ _ F' (show_led hR N' fun _ hp => hp) ⟨rfl, N, us', k', i', hc, rfl⟩
theorem bad0 {f : Addr} {c : Int} {xs : List Int} (H : ∀ vs, IntsAre vs xs → vs.length = xs.length → BadW w mean mg mb f c vs) : OpBad w mean mg mb f c xs := by
  intro a N tc vs k rest hv hc
  unfold CbE
  intro dp un gd cn cs ad ccd cl outer A₀ base h₀ L m s Q E B F X N0 T hk hd' hu ret
  obtain ⟨R, hR, mW, mWD, mST, mSD, oN, N1⟩ := hide_led hc N0
  exact H vs hv hv.length a N tc k R dp un gd cn cs ad ccd cl outer A₀ base h₀ L m s.heap s.gens s.drawn s.toks s.os Q E mW mWD mST mSD oN B F X N1 T hk hd' hu fun G e t x h' tk' o F' R' U' => ret _ _ _ _ _ _ F' (Mine.RaisedS.sub R' (sub_led hR)) U'
theorem ok1 {f : Addr} {c : Int} {xs ys : List Int} {x : Int} (H : ∀ vs tx, IntsAre vs xs → vs.length = xs.length → OkW w mean mg mb f c (vs ++ [.int x tx]) ys) : OpOk w mean mg mb f c (xs ++ [x]) ys := ok0 fun vs hv _ => by
  obtain ⟨vs, tx, rfl, hv1⟩ := ints_inv hv
  exact H vs tx hv1 hv1.length
theorem bad1 {f : Addr} {c : Int} {xs : List Int} {x : Int} (H : ∀ vs tx, IntsAre vs xs → vs.length = xs.length → BadW w mean mg mb f c (vs ++ [.int x tx])) : OpBad w mean mg mb f c (xs ++ [x]) := bad0 fun vs hv _ => by
  obtain ⟨vs, tx, rfl, hv1⟩ := ints_inv hv
  exact H vs tx hv1 hv1.length
theorem ok2 {f : Addr} {c : Int} {xs ys : List Int} {x y : Int} (H : ∀ vs tx ty, IntsAre vs xs → vs.length = xs.length → OkW w mean mg mb f c (vs ++ [.int x tx] ++ [.int y ty]) ys) : OpOk w mean mg mb f c (xs ++ [x] ++ [y]) ys := ok1 fun vs ty hv _ => by
  obtain ⟨vs, tx, rfl, hv1⟩ := ints_inv hv
  exact H vs tx ty hv1 hv1.length
theorem bad2 {f : Addr} {c : Int} {xs : List Int} {x y : Int} (H : ∀ vs tx ty, IntsAre vs xs → vs.length = xs.length → BadW w mean mg mb f c (vs ++ [.int x tx] ++ [.int y ty])) : OpBad w mean mg mb f c (xs ++ [x] ++ [y]) := bad1 fun vs ty hv _ => by
  obtain ⟨vs, tx, rfl, hv1⟩ := ints_inv hv
  exact H vs tx ty hv1 hv1.length
theorem ok3 {f : Addr} {c : Int} {xs ys : List Int} {x y z : Int} (H : ∀ vs tx ty tz, IntsAre vs xs → vs.length = xs.length → OkW w mean mg mb f c (vs ++ [.int x tx] ++ [.int y ty] ++ [.int z tz]) ys) : OpOk w mean mg mb f c (xs ++ [x] ++ [y] ++ [z]) ys := ok2 fun vs ty tz hv _ => by
  obtain ⟨vs, tx, rfl, hv1⟩ := ints_inv hv
  exact H vs tx ty tz hv1 hv1.length
theorem badN {f : Addr} {c : Int} (H : BadW w mean mg mb f c []) : OpBad w mean mg mb f c [] := bad0 fun vs hv _ => by
  obtain rfl := ints_nil hv
  exact H
theorem badN1 {f : Addr} {c : Int} {x : Int} (H : ∀ tx, BadW w mean mg mb f c ([] ++ [.int x tx])) : OpBad w mean mg mb f c [x] := bad0 fun vs hv _ => by
  obtain ⟨vs, ty, rfl, hv1⟩ := ints_inv (ys := []) hv
  obtain rfl := ints_nil hv1
  exact H _
theorem badN2 {f : Addr} {c : Int} {x y : Int} (H : ∀ tx ty, BadW w mean mg mb f c ([] ++ [.int x tx] ++ [.int y ty])) : OpBad w mean mg mb f c ([x] ++ [y]) := bad0 fun vs hv _ => by
  obtain ⟨vs, ty, rfl, hv1⟩ := ints_inv hv
  obtain ⟨vs, tx, rfl, hv2⟩ := ints_inv (ys := []) hv1
  obtain rfl := ints_nil hv2
  exact H _ _
end
end

section
open PySem PySem.W PyProof.Rows PySem.Calls
theorem kwOps : True := by
  k_with_none
  w_top off
  trivial
theorem kwOps_1 : True := by
  k_with_none
  k_with "cell_enter" => ((refine' enterM ?k1 ?k2 ?k3 ?k4 ?k5 ?kA ?kF ?kK ?k6 ?k7 ?k8 ?k9 ?kB ?_ ?c2 ?c3 ?c4 ?c5; (case kA => exact rfl); (case kF => exact rfl); (case kK => assumption); (case k1 => k_asm); (case k2 => k_asm); (case k3 => k_asm); (case k4 => k_asm); (case k5 => k_asm); (case k6 => k_is); (case k7 => k_is); (case k8 => first | ktr_room | k_room); (case k9 => first | exact BindsTo.of_eq rfl | exact binds_K (by k_in) rfl (by k_is) rfl rfl rfl); (case c5 => decide); (case kB => exact locs rfl); (case c2 => exact rfl); (case c3 => exact rfl); (case c4 => exact rfl); k_whole; intro mqzz gqzz Lqzz hqzz tqzz FGqzz Fqzz Nqzz Bqzz Xqzz Tqzz qkqzz ekqzz))
  k_with "storeName" => ((k_dflt (refine' storeL ?F ?N ?a ?b ?_; (case F => k_asm); (case N => k_asm); (case a => rfl); (case b => rfl); k_whole; intro mszz hszz tszz Fszz Nszz; (try k_sweep))))
  k_with "leaveF" => ((k_dflt (first | (refine' leaveF_ret ?k1 ?k2 ?_; (case k1 => k_asm); (case k2 => k_asm); k_whole) | (refine' leaveF_next ?k1 ?k2 ?_; (case k1 => k_asm); (case k2 => k_asm); k_whole)); intro kFlzz kNlzz; ground_anew kFlzz))
  k_with "execs cons" => (((with_reducible show wpAny _ _ _ _ _ (PySem.Shared.mk _ _ _ (_ + 1) _)); refine genToks ?_; intro tk9zz))
  k_with "eval Constant int" => ((refine constG ?_; intro t9zz tk9zz))
  k_with "ktr_room" => (((try dsimp only [depth_under_make, depth_under_kw, depth_in1, depth_deeper]); first | exact room1 (by assumption) (by decide) | exact room2 (by assumption) (by decide) | exact room0 (by assumption) | exact room3 (by assumption) (by decide) | exact room4 (by assumption) (by decide)))
  k_with "ktr_units" => (((try dsimp only [units_under_make, units_in1, units_deeper, Around.mark_units]); first | exact room1 (by assumption) (by decide) | exact room2 (by assumption) (by decide) | exact room0 (by assumption) | exact room3 (by assumption) (by decide) | exact room4 (by assumption) (by decide)))
  k_with "k_ne" => ((refine neN ?_; (try dsimp only); first | assumption | exact Ne.symm (by assumption) | exact Nat.ne_of_gt (by assumption) | exact Nat.ne_of_lt (by assumption) | exact neP1 (by assumption) | exact neP2 (by assumption) | exact neP3 (by assumption) | exact neP4 (by assumption) | exact neP5 (by assumption)))
  k_with "k_mem" => (first | assumption | exact List.Mem.head _ | (refine' List.Mem.tail _ ?_; k_mem))
  k_with "k_all" => (first | assumption | (refine all1 ?_ (by assumption); k_ne) | (refine all2 ?_ ?_ (by assumption) <;> k_ne) | (refine all3 ?_ ?_ ?_ (by assumption) <;> k_ne))
  k_with "ke_room" => (ktr_units)
  trivial
theorem ops_words : True := by
  k_with_none
  k_with "cell_enter" => ((refine' enterM ?k1 ?k2 ?k3 ?k4 ?k5 ?kA ?kF ?kK ?k6 ?k7 ?k8 ?k9 ?kB ?_ ?c2 ?c3 ?c4 ?c5; (case kA => exact rfl); (case kF => exact rfl); (case kK => assumption); (case k1 => k_asm); (case k2 => k_asm); (case k3 => k_asm); (case k4 => k_asm); (case k5 => k_asm); (case k6 => k_is); (case k7 => k_is); (case k8 => first | ktr_room | k_room); (case k9 => first | exact BindsTo.of_eq rfl | exact binds_K (by k_in) rfl (by k_is) rfl rfl rfl); (case c5 => decide); (case kB => exact locs rfl); (case c2 => exact rfl); (case c3 => exact rfl); (case c4 => exact rfl); k_whole; intro mqzz gqzz Lqzz hqzz tqzz FGqzz Fqzz Nqzz Bqzz Xqzz Tqzz qkqzz ekqzz))
  k_with "storeName" => ((k_dflt (refine' storeL ?F ?N ?a ?b ?_; (case F => k_asm); (case N => k_asm); (case a => rfl); (case b => rfl); k_whole; intro mszz hszz tszz Fszz Nszz; (try k_sweep))))
  k_with "leaveF" => ((k_dflt (first | (refine' leaveF_ret ?k1 ?k2 ?_; (case k1 => k_asm); (case k2 => k_asm); k_whole) | (refine' leaveF_next ?k1 ?k2 ?_; (case k1 => k_asm); (case k2 => k_asm); k_whole)); intro kFlzz kNlzz; ground_anew kFlzz))
  k_with "execs cons" => (((with_reducible show wpAny _ _ _ _ _ (PySem.Shared.mk _ _ _ (_ + 1) _)); refine genToks ?_; intro tk9zz))
  k_with "eval Constant int" => ((refine constG ?_; intro t9zz tk9zz))
  k_with "ktr_room" => (((try dsimp only [depth_under_make, depth_under_kw, depth_in1, depth_deeper]); first | exact room1 (by assumption) (by decide) | exact room2 (by assumption) (by decide) | exact room0 (by assumption) | exact room3 (by assumption) (by decide) | exact room4 (by assumption) (by decide)))
  k_with "ktr_units" => (((try dsimp only [units_under_make, units_in1, units_deeper, Around.mark_units]); first | exact room1 (by assumption) (by decide) | exact room2 (by assumption) (by decide) | exact room0 (by assumption) | exact room3 (by assumption) (by decide) | exact room4 (by assumption) (by decide)))
  k_with "k_ne" => ((refine neN ?_; (try dsimp only); first | assumption | exact Ne.symm (by assumption) | exact Nat.ne_of_gt (by assumption) | exact Nat.ne_of_lt (by assumption) | exact neP1 (by assumption) | exact neP2 (by assumption) | exact neP3 (by assumption) | exact neP4 (by assumption) | exact neP5 (by assumption)))
  k_with "k_mem" => (first | assumption | exact List.Mem.head _ | (refine' List.Mem.tail _ ?_; k_mem))
  k_with "k_all" => (first | assumption | (refine all1 ?_ (by assumption); k_ne) | (refine all2 ?_ ?_ (by assumption) <;> k_ne) | (refine all3 ?_ ?_ ?_ (by assumption) <;> k_ne))
  k_with "ke_room" => (ktr_units)
  k_with "execs cons" => first | ((with_reducible show wpAny _ _ _ _ _ (PySem.Shared.mk _ _ _ (_ + 1) _)); refine genToks ?_; intro tk9) | (refine consQ ?_; intro q9)
  k_with "flowQ" => first | (refine flow_next ?_) | (refine flow_ret ?_)
  k_with "call ref" => (k_here; (try dsimp only [List.nil_append, List.cons_append]); (with_reducible show wpAny _ _ (call (Value.ref 415) [Value.ref _]) _ _ _); k_dflt (refine wpAny_call ?_; (refine' code_def ?k1 ?k2 ?k3 ?k4 ?k5 ?kA ?kF ?kK ?k6 ?k7 ?k8 ?k9 ?kB ?_ ?c2 ?c3 ?c4 ?c5; (case kA => exact rfl); (case kF => exact rfl); (case kK => exact rfl); (case k1 => k_asm); (case k2 => k_asm); (case k3 => k_asm); (case k4 => k_asm); (case k5 => k_asm); (case k6 => k_is); (case k7 => k_is); (case k8 => ktr_room); (case k9 => exact BindsTo.of_eq rfl); (case c5 => decide); (case kB => exact locs rfl); (case c2 => exact rfl); (case c3 => exact rfl); (case c4 => exact rfl); k_whole; intro g' L' h' FG' F' N' B' X' T'; (try dsimp only); (try k_lift B'); (try k_fold))))
  k_with "call ref" => (k_here; (try dsimp only [List.nil_append, List.cons_append]); (with_reducible show wpAny _ _ (call (Value.ref 422) [Value.ref _]) _ _ _); k_dflt (refine wpAny_call ?_; (refine' code_def ?k1 ?k2 ?k3 ?k4 ?k5 ?kA ?kF ?kK ?k6 ?k7 ?k8 ?k9 ?kB ?_ ?c2 ?c3 ?c4 ?c5; (case kA => exact rfl); (case kF => exact rfl); (case kK => exact rfl); (case k1 => k_asm); (case k2 => k_asm); (case k3 => k_asm); (case k4 => k_asm); (case k5 => k_asm); (case k6 => k_is); (case k7 => k_is); (case k8 => ktr_room); (case k9 => exact BindsTo.of_eq rfl); (case c5 => decide); (case kB => exact locs rfl); (case c2 => exact rfl); (case c3 => exact rfl); (case c4 => exact rfl); k_whole; intro g' L' h' FG' F' N' B' X' T'; (try dsimp only); (try k_lift B'); (try k_fold))))
  k_with "call ref" => (k_here; (try dsimp only [List.nil_append, List.cons_append]); (with_reducible show wpAny _ _ (call (Value.ref 401) [Value.ref _]) _ _ _); k_dflt (refine' useV (g := fun t => Value.int _ t) (pop_ok ?m1 ?m2 ?U ?hv ?hs) ?B ?F ?X ?N ?T ?hk ?hd ?hu ?_; (case B => k_asm); (case F => k_asm); (case X => k_asm); (case N => k_asm); (case T => k_asm); (case m1 => k_mem); (case m2 => k_mem); (case hk => exact rfl); (case hd => ktr_room); (case hu => ktr_units); (case U => k_upd); (case hv => first | assumption | exact IntsAre.nil | (apply ints_snoc; first | assumption | exact IntsAre.nil | (apply ints_snoc; first | assumption | exact IntsAre.nil))); (case hs => ((try simp only [List.length_append, List.length_cons, List.length_nil]); (first | lia | omega))); k_whole; intro t' h' tk' F' N'; (try k_sweep)))
  k_with "call ref" => (k_here; (try dsimp only [List.nil_append, List.cons_append]); (with_reducible show wpAny _ _ (call (Value.ref 394) [Value.ref _, Value.int _ _]) _ _ _); k_dflt (refine' useN (push_ok ?m1 ?m2 ?U ?hv ?hm ?hs) ?B ?F ?X ?N ?T ?hk ?hd ?hu ?_; (case B => k_asm); (case F => k_asm); (case X => k_asm); (case N => k_asm); (case T => k_asm); (case m1 => k_mem); (case m2 => k_mem); (case hk => exact rfl); (case hd => ktr_room); (case hu => ktr_units); (case U => k_upd); (case hv => first | assumption | exact IntsAre.nil | (apply ints_snoc; first | assumption | exact IntsAre.nil | (apply ints_snoc; first | assumption | exact IntsAre.nil))); (case hm => decide); (case hs => ((try simp only [List.length_append, List.length_cons, List.length_nil]); (first | lia | omega))); k_whole; intro h' tk' F' N'; (try k_sweep)))
  k_with "call ref" => (k_here; (try dsimp only [List.nil_append, List.cons_append]); (with_reducible show wpAny _ _ (call (Value.ref 408) [Value.ref _, Value.int _ _]) _ _ _); k_dflt (refine' useV (g := fun t => Value.int _ t) (peek_ok ?m1 ?m2 ?m3 ?hv ?hs ?h1 ?h2) ?B ?F ?X ?N ?T ?hk ?hd ?hu ?_; (case B => k_asm); (case F => k_asm); (case X => k_asm); (case N => k_asm); (case T => k_asm); (case m1 => k_mem); (case m2 => k_mem); (case hk => exact rfl); (case hd => ktr_room); (case hu => ktr_units); (case m3 => k_mem); (case hv => first | assumption | exact IntsAre.nil | (apply ints_snoc; first | assumption | exact IntsAre.nil | (apply ints_snoc; first | assumption | exact IntsAre.nil))); (case hs => ((try simp only [List.length_append, List.length_cons, List.length_nil]); (first | lia | omega))); (case h1 => ((try simp only [List.length_append, List.length_cons, List.length_nil]); (first | lia | omega))); (case h2 => ((try simp only [List.length_append, List.length_cons, List.length_nil]); (first | lia | omega))); k_whole; intro t' h' tk' F' N'; (try k_sweep)))
  k_with "call ref" => (k_here; (try dsimp only [List.nil_append, List.cons_append]); (with_reducible show wpAny _ _ (call (Value.ref 401) [Value.ref _]) _ _ _); k_dflt (refine' useE (pop_bad ?m1 ?m2 ?m3 IntsAre.nil) ?B ?F ?X ?N ?T ?hk ?hd ?hu ?_; (case B => k_asm); (case F => k_asm); (case X => k_asm); (case N => k_asm); (case T => k_asm); (case m1 => k_mem); (case m2 => k_mem); (case m3 => k_mem); (case hk => exact rfl); (case hd => ktr_room); (case hu => ktr_units); k_whole; intro G' e' t' x' h' tk' F' R' U'))
  k_with "call ref" => (k_here; (try dsimp only [List.nil_append, List.cons_append]); (with_reducible show wpAny _ _ (call (Value.ref 394) [Value.ref _, Value.int _ _]) _ _ _); k_dflt (refine' useE (push_bad ?m1 ?m2 ?m3 ?hv ?hm ?hs ?h2) ?B ?F ?X ?N ?T ?hk ?hd ?hu ?_; (case B => k_asm); (case F => k_asm); (case X => k_asm); (case N => k_asm); (case T => k_asm); (case m1 => k_mem); (case m2 => k_mem); (case m3 => k_mem); (case hv => first | assumption | exact IntsAre.nil | (apply ints_snoc; assumption)); (case hm => decide); (case hs => ((try simp only [List.length_append, List.length_cons, List.length_nil]); (first | lia | omega))); (case h2 => ((try simp only [List.length_append, List.length_cons, List.length_nil]); (first | lia | omega))); (case hk => exact rfl); (case hd => ktr_room); (case hu => ktr_units); k_whole; intro G' e' t' x' h' tk' F' R' U'))
  k_with "call ref" => (k_here; (try dsimp only [List.nil_append, List.cons_append]); (with_reducible show wpAny _ _ (call (Value.ref 408) [Value.ref _, Value.int _ _]) _ _ _); k_dflt (refine' useE (peek_bad ?m1 ?m2 ?m3 ?hv ?hs ?h1 ?h2) ?B ?F ?X ?N ?T ?hk ?hd ?hu ?_; (case B => k_asm); (case F => k_asm); (case X => k_asm); (case N => k_asm); (case T => k_asm); (case m1 => k_mem); (case m2 => k_mem); (case m3 => k_mem); (case hv => first | assumption | exact IntsAre.nil | (apply ints_snoc; assumption)); (case hs => ((try simp only [List.length_append, List.length_cons, List.length_nil]); (first | lia | omega))); (case h1 => ((try simp only [List.length_append, List.length_cons, List.length_nil]); (first | lia | omega))); (case h2 => (first | lia | omega)); (case hk => exact rfl); (case hd => ktr_room); (case hu => ktr_units); k_whole; intro G' e' t' x' h' tk' F' R' U'))
  k_with "call ref" => (k_here; (try dsimp only [List.nil_append, List.cons_append]); (with_reducible show wpAny _ _ (call (Value.ref 74) [Value.int _ _]) _ _ _); k_dflt (refine' useC (wrap32_c _ _ _) ?B ?F ?X ?N ?T ?hk ?hp ?hd ?hu ?_; (case B => k_asm); (case F => k_asm); (case X => k_asm); (case N => k_asm); (case T => k_asm); (case hk => exact rfl); (case hp => trivial); (case hd => ktr_room); (case hu => ktr_units); k_whole; intro t' h' tk' F' N'; (try k_sweep)))
  k_with "call ref" => (k_here; (try dsimp only [List.nil_append, List.cons_append]); (with_reducible show wpAny _ _ (call (Value.ref 81) [Value.int _ _]) _ _ _); k_dflt (refine' useC (floor6_c _ _ _) ?B ?F ?X ?N ?T ?hk ?hp ?hd ?hu ?_; (case B => k_asm); (case F => k_asm); (case X => k_asm); (case N => k_asm); (case T => k_asm); (case hk => exact rfl); (case hp => (first | lia | omega)); (case hd => ktr_room); (case hu => ktr_units); k_whole; intro t' h' tk' F' N'; (try k_sweep)))
  k_with "call ref" => (k_here; (try dsimp only [List.nil_append, List.cons_append]); (with_reducible show wpAny _ _ (call (Value.ref 88) [Value.int _ _]) _ _ _); k_dflt (refine' useC (ceiling6_c _ _ _) ?B ?F ?X ?N ?T ?hk ?hp ?hd ?hu ?_; (case B => k_asm); (case F => k_asm); (case X => k_asm); (case N => k_asm); (case T => k_asm); (case hk => exact rfl); (case hp => (first | lia | omega)); (case hd => ktr_room); (case hu => ktr_units); k_whole; intro t' h' tk' F' N'; (try k_sweep)))
  k_with "call ref" => (k_here; (try dsimp only [List.nil_append, List.cons_append]); (with_reducible show wpAny _ _ (call (Value.ref 198) [Value.int _ _, Value.int _ _, Value.int _ _]) _ _ _); k_dflt (refine' useC (compared_c _ _ _ _ _ _ _) ?B ?F ?X ?N ?T ?hk ?hp ?hd ?hu ?_; (case B => k_asm); (case F => k_asm); (case X => k_asm); (case N => k_asm); (case T => k_asm); (case hk => exact rfl); (case hp => trivial); (case hd => ktr_room); (case hu => ktr_units); k_whole; intro t' h' tk' F' N'; (try k_sweep)))
  k_with "call ref" => (k_here; (try dsimp only [List.nil_append, List.cons_append]); (with_reducible show wpAny _ _ (call (Value.ref 226) [Value.int _ _, Value.int _ _, Value.int _ _]) _ _ _); k_dflt (refine' useV (g := fun t => Value.int _ t) (two_c _ _ _ _ _ _ _ ?h1 ?h2 ?h3) ?B ?F ?X ?N ?T ?hk ?hd ?hu ?_; (case B => k_asm); (case F => k_asm); (case X => k_asm); (case N => k_asm); (case T => k_asm); (case h1 => (first | lia | omega)); (case h2 => (first | lia | omega)); (case h3 => (first | lia | omega)); (case hk => exact rfl); (case hd => ktr_room); (case hu => ktr_units); k_whole; intro t' h' tk' F' N'; (try k_sweep)))
  k_with "call ref" => (k_here; (try dsimp only [List.nil_append, List.cons_append]); (with_reducible show wpAny _ _ (call (Value.ref 226) [Value.int 98 _, Value.int _ _, Value.int 0 _]) _ _ _); k_dflt (refine' useE (two_bad _ _ _ _ _) ?B ?F ?X ?N ?T ?hk ?hd ?hu ?_; (case B => k_asm); (case F => k_asm); (case X => k_asm); (case N => k_asm); (case T => k_asm); (case hk => exact rfl); (case hd => ktr_room); (case hu => ktr_units); k_whole; intro G' e' t' x' h' tk' F' R' U'))
  k_with "leaving ref" => (k_here; (rename RaisedS _ _ _ _ _ _ _ _ _ => rs); k_dflt (refine' leave_onX ?K rfl ?F rs ?U ?_; (case K => k_asm); (case F => k_asm); (case U => k_asm); k_whole; intro h' R' U'))
  k_with "eval Call Attribute" => first
    | ((with_reducible show wpAny _ _ (eval (Expr.Call (Expr.Attribute (Expr.Attribute _ _ _) (Str.ofString "pop") _) [] [] _) _) _ _ _); k_dflt (refine' popE ?B ?F ?X ?N ?T ?hm ?mW ?mWD ?mST ?mSD ?U ?hv ?hs ?hk ?hx ?hd ?hu ?he ?_; (case B => k_asm); (case F => k_asm); (case X => k_asm); (case N => k_asm); (case T => k_asm); (case hm => exact rfl); (case mW => k_mem); (case mWD => k_mem); (case mST => k_mem); (case mSD => k_mem); (case U => k_upd); (case hv => first | assumption | exact IntsAre.nil | (apply ints_snoc; first | assumption | exact IntsAre.nil | (apply ints_snoc; first | assumption | exact IntsAre.nil))); (case hs => ((try simp only [List.length_append, List.length_cons, List.length_nil]); (first | lia | omega))); (case hk => exact rfl); (case hx => exact rfl); (case hd => ktr_room); (case hu => ktr_units); (case he => exact rfl); k_whole; intro t' h' tk' F' N'; (try k_sweep)))
    | ((with_reducible show wpAny _ _ (eval (Expr.Call (Expr.Attribute (Expr.Attribute _ _ _) (Str.ofString "pop") _) [] [] _) _) _ _ _); k_dflt (refine' popX ?B ?F ?X ?N ?T ?hm ?mW ?mWD ?mST ?mSD ?mN ?hk ?hx ?hd ?hu ?he ?_; (case B => k_asm); (case F => k_asm); (case X => k_asm); (case N => k_asm); (case T => k_asm); (case hm => exact rfl); (case mW => k_mem); (case mWD => k_mem); (case mST => k_mem); (case mSD => k_mem); (case mN => k_mem); (case hk => exact rfl); (case hx => exact rfl); (case hd => ktr_room); (case hu => ktr_units); (case he => exact rfl); k_whole; intro G' e' t' x' h' tk' F' R' U'))
    | ((with_reducible show wpAny _ _ (eval (Expr.Call (Expr.Attribute (Expr.Attribute _ _ _) (Str.ofString "push") _) [Expr.Name _ _] [] _) _) _ _ _); k_dflt (refine' pushN ?B ?F ?X ?N ?T ?hm ?mW ?mWD ?mST ?mSD ?U ?hv ?hs ?hm2 ?hx2 ?hb ?hk ?hx ?hd ?hu ?he ?_; (case B => k_asm); (case F => k_asm); (case X => k_asm); (case N => k_asm); (case T => k_asm); (case hm => exact rfl); (case mW => k_mem); (case mWD => k_mem); (case mST => k_mem); (case mSD => k_mem); (case hm2 => exact rfl); (case U => k_upd); (case hv => first | assumption | exact IntsAre.nil | (apply ints_snoc; first | assumption | exact IntsAre.nil | (apply ints_snoc; first | assumption | exact IntsAre.nil))); (case hs => ((try simp only [List.length_append, List.length_cons, List.length_nil]); (first | lia | omega))); (case hx2 => exact rfl); (case hb => decide); (case hk => exact rfl); (case hx => exact rfl); (case hd => ktr_room); (case hu => ktr_units); (case he => exact rfl); k_whole; intro h' tk' F' N'; (try k_sweep)))
  trivial
section
variable {w : World} {mean : ExcName → Option Value} {mg mb : Str → Option Value}
theorem swap_ok (xs : List Int) (x y : Int) (hl : xs.length ≤ 6) (t : Int) : OpOk w mean mg mb 158 t (xs ++ [x] ++ [y]) (xs ++ [y] ++ [x]) := by
  refine ok2 fun vs tx ty hv2 hl2 => ?_
  intro a N tc k R dp un gd cn cs ad ccd cl outer A₀ base h₀ L m h gn dr tk os Q E mW mWD mST mSD oN aB aF aX aN aT hk9 hd9 hu9 hret
  k_dflt cell_enter
  k_steps
  all_goals (rename News _ _ _ _ => kN)
  all_goals exact hret _ _ _ _ (by k_asm) (kst_newsOf kN (by intro p hp; first | exact hp | exact List.Mem.tail _ hp | exact List.Mem.tail _ (List.Mem.tail _ hp))) (by first | assumption | (apply ints_snoc; first | assumption | (apply ints_snoc; first | assumption | (apply ints_snoc; assumption))))
theorem swap_bad0 (t : Int) : OpBad w mean mg mb 158 t [] := by
  refine badN ?_
  intro a N tc k R dp un gd cn cs ad ccd cl outer A₀ base h₀ L m h gn dr tk os Q E mW mWD mST mSD oN aB aF aX aN aT hk9 hd9 hu9 hret
  k_dflt cell_enter
  k_steps
  all_goals ((rename RaisedS _ _ _ _ _ _ _ _ _ => rs); exact hret _ _ _ _ _ _ _ (by assumption) (by first | exact rs | exact Mine.RaisedS.sub rs (by intro p hp; first | exact List.Mem.tail _ hp | exact List.Mem.tail _ (List.Mem.tail _ hp) | exact List.Mem.tail _ (List.Mem.tail _ (List.Mem.tail _ hp)))) (by assumption))
theorem swap_bad1 (x t : Int) : OpBad w mean mg mb 158 t [x] := by
  refine badN1 fun ty => ?_
  intro a N tc k R dp un gd cn cs ad ccd cl outer A₀ base h₀ L m h gn dr tk os Q E mW mWD mST mSD oN aB aF aX aN aT hk9 hd9 hu9 hret
  k_dflt cell_enter
  k_steps
  all_goals ((rename RaisedS _ _ _ _ _ _ _ _ _ => rs); exact hret _ _ _ _ _ _ _ (by assumption) (by first | exact rs | exact Mine.RaisedS.sub rs (by intro p hp; first | exact List.Mem.tail _ hp | exact List.Mem.tail _ (List.Mem.tail _ hp) | exact List.Mem.tail _ (List.Mem.tail _ (List.Mem.tail _ hp)))) (by assumption))
theorem dup_ok (xs : List Int) (x : Int) (hl : xs.length ≤ 6) (t : Int) : OpOk w mean mg mb 137 t (xs ++ [x]) (xs ++ [x] ++ [x]) := by
  refine ok1 fun vs ty hv1 hl2 => ?_
  intro a N tc k R dp un gd cn cs ad ccd cl outer A₀ base h₀ L m h gn dr tk os Q E mW mWD mST mSD oN aB aF aX aN aT hk9 hd9 hu9 hret
  k_dflt cell_enter
  k_steps
  all_goals (rename News _ _ _ _ => kN)
  all_goals exact hret _ _ _ _ (by k_asm) (kst_newsOf kN (by intro p hp; first | exact hp | exact List.Mem.tail _ hp | exact List.Mem.tail _ (List.Mem.tail _ hp))) (by (have e9 : (xs ++ [x]).getD (((vs ++ [Value.int x ty]).length : Int) - 1).toNat 0 = x := by (simp [hl2])); rw [e9]; exact ints_snoc (ints_snoc hv1 _ _) _ _)
theorem dup_bad0 (t : Int) : OpBad w mean mg mb 137 t [] := by
  refine badN ?_
  intro a N tc k R dp un gd cn cs ad ccd cl outer A₀ base h₀ L m h gn dr tk os Q E mW mWD mST mSD oN aB aF aX aN aT hk9 hd9 hu9 hret
  k_dflt cell_enter
  k_steps
  all_goals ((rename RaisedS _ _ _ _ _ _ _ _ _ => rs); exact hret _ _ _ _ _ _ _ (by assumption) (by first | exact rs | exact Mine.RaisedS.sub rs (by intro p hp; first | exact List.Mem.tail _ hp | exact List.Mem.tail _ (List.Mem.tail _ hp) | exact List.Mem.tail _ (List.Mem.tail _ (List.Mem.tail _ hp)))) (by assumption))
theorem dup_bad1 (xs : List Int) (x t : Int) (hl : xs.length = 7) : OpBad w mean mg mb 137 t (xs ++ [x]) := by
  refine bad1 fun vs ty hv1 hl2 => ?_
  intro a N tc k R dp un gd cn cs ad ccd cl outer A₀ base h₀ L m h gn dr tk os Q E mW mWD mST mSD oN aB aF aX aN aT hk9 hd9 hu9 hret
  k_dflt cell_enter
  k_steps
  all_goals ((rename RaisedS _ _ _ _ _ _ _ _ _ => rs); exact hret _ _ _ _ _ _ _ (by assumption) (by first | exact rs | exact Mine.RaisedS.sub rs (by intro p hp; first | exact List.Mem.tail _ hp | exact List.Mem.tail _ (List.Mem.tail _ hp) | exact List.Mem.tail _ (List.Mem.tail _ (List.Mem.tail _ hp)))) (by assumption))
theorem depth_ok (xs : List Int) (hl : xs.length ≤ 7) (t : Int) : OpOk w mean mg mb 165 t xs (xs ++ [(xs.length : Int)]) := by
  refine ok0 fun vs hv hl2 => ?_
  intro a N tc k R dp un gd cn cs ad ccd cl outer A₀ base h₀ L m h gn dr tk os Q E mW mWD mST mSD oN aB aF aX aN aT hk9 hd9 hu9 hret
  k_dflt cell_enter
  k_steps
  all_goals (rename News _ _ _ _ => kN)
  all_goals exact hret _ _ _ _ (by k_asm) (kst_newsOf kN (by intro p hp; first | exact hp | exact List.Mem.tail _ hp | exact List.Mem.tail _ (List.Mem.tail _ hp))) (by first | assumption | (apply ints_snoc; first | assumption | (apply ints_snoc; first | assumption | (apply ints_snoc; assumption))))
theorem depth_bad (xs : List Int) (t : Int) (hl : xs.length = 8) : OpBad w mean mg mb 165 t xs := by
  refine bad0 fun vs hv hl2 => ?_
  intro a N tc k R dp un gd cn cs ad ccd cl outer A₀ base h₀ L m h gn dr tk os Q E mW mWD mST mSD oN aB aF aX aN aT hk9 hd9 hu9 hret
  k_dflt cell_enter
  k_steps
  all_goals ((rename RaisedS _ _ _ _ _ _ _ _ _ => rs); exact hret _ _ _ _ _ _ _ (by assumption) (by first | exact rs | exact Mine.RaisedS.sub rs (by intro p hp; first | exact List.Mem.tail _ hp | exact List.Mem.tail _ (List.Mem.tail _ hp) | exact List.Mem.tail _ (List.Mem.tail _ (List.Mem.tail _ hp)))) (by assumption))
theorem cindex_ok (xs : List Int) (x : Int) (hl : xs.length ≤ 7) (h1 : 1 ≤ x) (h2 : x ≤ (xs.length : Int)) (t : Int) : OpOk w mean mg mb 172 t (xs ++ [x]) (xs ++ [xs.getD ((xs.length : Int) - x).toNat 0]) := by
  refine ok1 fun vs ty hv1 hl2 => ?_
  intro a N tc k R dp un gd cn cs ad ccd cl outer A₀ base h₀ L m h gn dr tk os Q E mW mWD mST mSD oN aB aF aX aN aT hk9 hd9 hu9 hret
  k_dflt cell_enter
  k_steps
  all_goals (rename News _ _ _ _ => kN)
  all_goals exact hret _ _ _ _ (by k_asm) (kst_newsOf kN (by intro p hp; first | exact hp | exact List.Mem.tail _ hp | exact List.Mem.tail _ (List.Mem.tail _ hp))) (by rw [← hl2]; exact ints_snoc hv1 _ _)
theorem cindex_bad0 (t : Int) : OpBad w mean mg mb 172 t [] := by
  refine badN ?_
  intro a N tc k R dp un gd cn cs ad ccd cl outer A₀ base h₀ L m h gn dr tk os Q E mW mWD mST mSD oN aB aF aX aN aT hk9 hd9 hu9 hret
  k_dflt cell_enter
  k_steps
  all_goals ((rename RaisedS _ _ _ _ _ _ _ _ _ => rs); exact hret _ _ _ _ _ _ _ (by assumption) (by first | exact rs | exact Mine.RaisedS.sub rs (by intro p hp; first | exact List.Mem.tail _ hp | exact List.Mem.tail _ (List.Mem.tail _ hp) | exact List.Mem.tail _ (List.Mem.tail _ (List.Mem.tail _ hp)))) (by assumption))
theorem cindex_bad1 (xs : List Int) (x t : Int) (hl : xs.length ≤ 7) (hx : x < 1 ∨ (xs.length : Int) < x) (hb : -(2^40) < x ∧ x < 2^40) : OpBad w mean mg mb 172 t (xs ++ [x]) := by
  refine bad1 fun vs ty hv1 hl2 => ?_
  intro a N tc k R dp un gd cn cs ad ccd cl outer A₀ base h₀ L m h gn dr tk os Q E mW mWD mST mSD oN aB aF aX aN aT hk9 hd9 hu9 hret
  k_dflt cell_enter
  k_steps
  all_goals ((rename RaisedS _ _ _ _ _ _ _ _ _ => rs); exact hret _ _ _ _ _ _ _ (by assumption) (by first | exact rs | exact Mine.RaisedS.sub rs (by intro p hp; first | exact List.Mem.tail _ hp | exact List.Mem.tail _ (List.Mem.tail _ hp) | exact List.Mem.tail _ (List.Mem.tail _ (List.Mem.tail _ hp)))) (by assumption))
theorem roll_ok (xs : List Int) (x y z : Int) (hl : xs.length ≤ 5) (t : Int) : OpOk w mean mg mb 184 t (xs ++ [x] ++ [y] ++ [z]) (xs ++ [y] ++ [z] ++ [x]) := by
  refine ok3 fun vs tz tx ty hv3 hl2 => ?_
  intro a N tc k R dp un gd cn cs ad ccd cl outer A₀ base h₀ L m h gn dr tk os Q E mW mWD mST mSD oN aB aF aX aN aT hk9 hd9 hu9 hret
  k_dflt cell_enter
  k_steps
  all_goals (rename News _ _ _ _ => kN)
  all_goals exact hret _ _ _ _ (by k_asm) (kst_newsOf kN (by intro p hp; first | exact hp | exact List.Mem.tail _ hp | exact List.Mem.tail _ (List.Mem.tail _ hp))) (by first | assumption | (apply ints_snoc; first | assumption | (apply ints_snoc; first | assumption | (apply ints_snoc; assumption))))
theorem roll_bad0 (t : Int) : OpBad w mean mg mb 184 t [] := by
  refine badN ?_
  intro a N tc k R dp un gd cn cs ad ccd cl outer A₀ base h₀ L m h gn dr tk os Q E mW mWD mST mSD oN aB aF aX aN aT hk9 hd9 hu9 hret
  k_dflt cell_enter
  k_steps
  all_goals ((rename RaisedS _ _ _ _ _ _ _ _ _ => rs); exact hret _ _ _ _ _ _ _ (by assumption) (by first | exact rs | exact Mine.RaisedS.sub rs (by intro p hp; first | exact List.Mem.tail _ hp | exact List.Mem.tail _ (List.Mem.tail _ hp) | exact List.Mem.tail _ (List.Mem.tail _ (List.Mem.tail _ hp)))) (by assumption))
theorem roll_bad1 (x t : Int) : OpBad w mean mg mb 184 t [x] := by
  refine badN1 fun ty => ?_
  intro a N tc k R dp un gd cn cs ad ccd cl outer A₀ base h₀ L m h gn dr tk os Q E mW mWD mST mSD oN aB aF aX aN aT hk9 hd9 hu9 hret
  k_dflt cell_enter
  k_steps
  all_goals ((rename RaisedS _ _ _ _ _ _ _ _ _ => rs); exact hret _ _ _ _ _ _ _ (by assumption) (by first | exact rs | exact Mine.RaisedS.sub rs (by intro p hp; first | exact List.Mem.tail _ hp | exact List.Mem.tail _ (List.Mem.tail _ hp) | exact List.Mem.tail _ (List.Mem.tail _ (List.Mem.tail _ hp)))) (by assumption))
theorem roll_bad2 (x y t : Int) : OpBad w mean mg mb 184 t ([x] ++ [y]) := by
  refine badN2 fun tx ty => ?_
  intro a N tc k R dp un gd cn cs ad ccd cl outer A₀ base h₀ L m h gn dr tk os Q E mW mWD mST mSD oN aB aF aX aN aT hk9 hd9 hu9 hret
  k_dflt cell_enter
  k_steps
  all_goals ((rename RaisedS _ _ _ _ _ _ _ _ _ => rs); exact hret _ _ _ _ _ _ _ (by assumption) (by first | exact rs | exact Mine.RaisedS.sub rs (by intro p hp; first | exact List.Mem.tail _ hp | exact List.Mem.tail _ (List.Mem.tail _ hp) | exact List.Mem.tail _ (List.Mem.tail _ (List.Mem.tail _ hp)))) (by assumption))
theorem not_ok (xs : List Int) (x : Int) (hl : xs.length ≤ 7) (t : Int) : OpOk w mean mg mb 212 t (xs ++ [x]) (xs ++ [if x = 0 then 1 else 0]) := by
  refine ok1 fun vs ty hv1 hl2 => ?_
  intro a N tc k R dp un gd cn cs ad ccd cl outer A₀ base h₀ L m h gn dr tk os Q E mW mWD mST mSD oN aB aF aX aN aT hk9 hd9 hu9 hret
  k_dflt cell_enter
  k_steps
  all_goals (rename News _ _ _ _ => kN)
  all_goals exact hret _ _ _ _ (by k_asm) (kst_newsOf kN (by intro p hp; first | exact hp | exact List.Mem.tail _ hp | exact List.Mem.tail _ (List.Mem.tail _ hp))) (by (have e9 : (if (x == 0) = true then (1:Int) else 0) = if x = 0 then 1 else 0 := by simp); rw [e9]; exact ints_snoc hv1 _ _)
theorem not_bad0 (t : Int) : OpBad w mean mg mb 212 t [] := by
  refine badN ?_
  intro a N tc k R dp un gd cn cs ad ccd cl outer A₀ base h₀ L m h gn dr tk os Q E mW mWD mST mSD oN aB aF aX aN aT hk9 hd9 hu9 hret
  k_dflt cell_enter
  k_steps
  all_goals ((rename RaisedS _ _ _ _ _ _ _ _ _ => rs); exact hret _ _ _ _ _ _ _ (by assumption) (by first | exact rs | exact Mine.RaisedS.sub rs (by intro p hp; first | exact List.Mem.tail _ hp | exact List.Mem.tail _ (List.Mem.tail _ hp) | exact List.Mem.tail _ (List.Mem.tail _ (List.Mem.tail _ hp)))) (by assumption))
theorem cmp_ok (xs : List Int) (x y : Int) (hl : xs.length ≤ 6) (c : Int) : OpOk w mean mg mb 205 c (xs ++ [x] ++ [y]) (xs ++ [if comparedS c x y = true then 1 else 0]) := by
  refine ok2 fun vs tx ty hv2 hl2 => ?_
  intro a N tc k R dp un gd cn cs ad ccd cl outer A₀ base h₀ L m h gn dr tk os Q E mW mWD mST mSD oN aB aF aX aN aT hk9 hd9 hu9 hret
  k_dflt cell_enter
  k_steps
  all_goals (rename News _ _ _ _ => kN)
  all_goals exact hret _ _ _ _ (by k_asm) (kst_newsOf kN (by intro p hp; first | exact hp | exact List.Mem.tail _ hp | exact List.Mem.tail _ (List.Mem.tail _ hp))) (by first | assumption | (apply ints_snoc; first | assumption | (apply ints_snoc; first | assumption | (apply ints_snoc; assumption))))
theorem cmp_bad0 (c : Int) : OpBad w mean mg mb 205 c [] := by
  refine badN ?_
  intro a N tc k R dp un gd cn cs ad ccd cl outer A₀ base h₀ L m h gn dr tk os Q E mW mWD mST mSD oN aB aF aX aN aT hk9 hd9 hu9 hret
  k_dflt cell_enter
  k_steps
  all_goals ((rename RaisedS _ _ _ _ _ _ _ _ _ => rs); exact hret _ _ _ _ _ _ _ (by assumption) (by first | exact rs | exact Mine.RaisedS.sub rs (by intro p hp; first | exact List.Mem.tail _ hp | exact List.Mem.tail _ (List.Mem.tail _ hp) | exact List.Mem.tail _ (List.Mem.tail _ (List.Mem.tail _ hp)))) (by assumption))
theorem cmp_bad1 (x c : Int) : OpBad w mean mg mb 205 c [x] := by
  refine badN1 fun ty => ?_
  intro a N tc k R dp un gd cn cs ad ccd cl outer A₀ base h₀ L m h gn dr tk os Q E mW mWD mST mSD oN aB aF aX aN aT hk9 hd9 hu9 hret
  k_dflt cell_enter
  k_steps
  all_goals ((rename RaisedS _ _ _ _ _ _ _ _ _ => rs); exact hret _ _ _ _ _ _ _ (by assumption) (by first | exact rs | exact Mine.RaisedS.sub rs (by intro p hp; first | exact List.Mem.tail _ hp | exact List.Mem.tail _ (List.Mem.tail _ hp) | exact List.Mem.tail _ (List.Mem.tail _ (List.Mem.tail _ hp)))) (by assumption))
theorem two_ok (xs : List Int) (x y : Int) (hl : xs.length ≤ 6) (hx : -(2^31) ≤ x ∧ x ≤ 2^31) (hy : -(2^31) ≤ y ∧ y ≤ 2^31) (c : Int) (h3 : c ≠ 98 ∨ y ≠ 0) : OpOk w mean mg mb 233 c (xs ++ [x] ++ [y]) (xs ++ [wrap32S (twoS c x y)]) := by
  refine ok2 fun vs tx ty hv2 hl2 => ?_
  intro a N tc k R dp un gd cn cs ad ccd cl outer A₀ base h₀ L m h gn dr tk os Q E mW mWD mST mSD oN aB aF aX aN aT hk9 hd9 hu9 hret
  k_dflt cell_enter
  k_steps
  all_goals (rename News _ _ _ _ => kN)
  all_goals exact hret _ _ _ _ (by k_asm) (kst_newsOf kN (by intro p hp; first | exact hp | exact List.Mem.tail _ hp | exact List.Mem.tail _ (List.Mem.tail _ hp))) (by first | assumption | (apply ints_snoc; first | assumption | (apply ints_snoc; first | assumption | (apply ints_snoc; assumption))))
theorem two_bad0 (c : Int) : OpBad w mean mg mb 233 c [] := by
  refine badN ?_
  intro a N tc k R dp un gd cn cs ad ccd cl outer A₀ base h₀ L m h gn dr tk os Q E mW mWD mST mSD oN aB aF aX aN aT hk9 hd9 hu9 hret
  k_dflt cell_enter
  k_steps
  all_goals ((rename RaisedS _ _ _ _ _ _ _ _ _ => rs); exact hret _ _ _ _ _ _ _ (by assumption) (by first | exact rs | exact Mine.RaisedS.sub rs (by intro p hp; first | exact List.Mem.tail _ hp | exact List.Mem.tail _ (List.Mem.tail _ hp) | exact List.Mem.tail _ (List.Mem.tail _ (List.Mem.tail _ hp)))) (by assumption))
theorem two_bad1 (x c : Int) : OpBad w mean mg mb 233 c [x] := by
  refine badN1 fun ty => ?_
  intro a N tc k R dp un gd cn cs ad ccd cl outer A₀ base h₀ L m h gn dr tk os Q E mW mWD mST mSD oN aB aF aX aN aT hk9 hd9 hu9 hret
  k_dflt cell_enter
  k_steps
  all_goals ((rename RaisedS _ _ _ _ _ _ _ _ _ => rs); exact hret _ _ _ _ _ _ _ (by assumption) (by first | exact rs | exact Mine.RaisedS.sub rs (by intro p hp; first | exact List.Mem.tail _ hp | exact List.Mem.tail _ (List.Mem.tail _ hp) | exact List.Mem.tail _ (List.Mem.tail _ (List.Mem.tail _ hp)))) (by assumption))
theorem two_bad2 (xs : List Int) (x : Int) (hl : xs.length ≤ 6) : OpBad w mean mg mb 233 98 (xs ++ [x] ++ [0]) := by
  refine bad2 fun vs tx ty hv2 hl2 => ?_
  intro a N tc k R dp un gd cn cs ad ccd cl outer A₀ base h₀ L m h gn dr tk os Q E mW mWD mST mSD oN aB aF aX aN aT hk9 hd9 hu9 hret
  k_dflt cell_enter
  k_steps
  all_goals ((rename RaisedS _ _ _ _ _ _ _ _ _ => rs); exact hret _ _ _ _ _ _ _ (by assumption) (by first | exact rs | exact Mine.RaisedS.sub rs (by intro p hp; first | exact List.Mem.tail _ hp | exact List.Mem.tail _ (List.Mem.tail _ hp) | exact List.Mem.tail _ (List.Mem.tail _ (List.Mem.tail _ hp)))) (by assumption))
theorem one_ok (xs : List Int) (y : Int) (hl : xs.length ≤ 7) (hy : -(2^31) ≤ y ∧ y ≤ 2^31) (c : Int) : OpOk w mean mg mb 240 c (xs ++ [y]) (xs ++ [oneS c y]) := by
  refine ok1 fun vs ty hv1 hl2 => ?_
  intro a N tc k R dp un gd cn cs ad ccd cl outer A₀ base h₀ L m h gn dr tk os Q E mW mWD mST mSD oN aB aF aX aN aT hk9 hd9 hu9 hret
  k_dflt cell_enter
  k_steps
  all_goals (rename News _ _ _ _ => kN)
  all_goals exact hret _ _ _ _ (by k_asm) (kst_newsOf kN (by intro p hp; first | exact hp | exact List.Mem.tail _ hp | exact List.Mem.tail _ (List.Mem.tail _ hp))) (by refine snoc_eq ?_ hv1; first | (simp_all [oneS]; done) | (simp only [oneS]; congr 1; (repeat' split) <;> first | rfl | (first | lia | omega) | (simp_all; done)))
theorem one_bad0 (c : Int) : OpBad w mean mg mb 240 c [] := by
  refine badN ?_
  intro a N tc k R dp un gd cn cs ad ccd cl outer A₀ base h₀ L m h gn dr tk os Q E mW mWD mST mSD oN aB aF aX aN aT hk9 hd9 hu9 hret
  k_dflt cell_enter
  k_steps
  all_goals ((rename RaisedS _ _ _ _ _ _ _ _ _ => rs); exact hret _ _ _ _ _ _ _ (by assumption) (by first | exact rs | exact Mine.RaisedS.sub rs (by intro p hp; first | exact List.Mem.tail _ hp | exact List.Mem.tail _ (List.Mem.tail _ hp) | exact List.Mem.tail _ (List.Mem.tail _ (List.Mem.tail _ hp)))) (by assumption))
theorem clear_ok (xs : List Int) (t : Int) : OpOk w mean mg mb 151 t xs [] := by
  intro a N tc vs k rest hv hc
  have hc0 := hc
  obtain ⟨c1, c2, c3, c4, r1, r2⟩ := hc
  refine CbM_mk ?_; intro dpY unY gdY cnY csY acY ccY clY ouY a0Y baY h0Y LY mY shY sgY sdY skY soY QY EY aB aF aX aN aT akY adY auY hret
  dsimp only [led] at aN
  k_dflt cell_enter
  k_steps
  all_goals (rename News _ _ _ _ => kN)
  rename (_ ∧ _ ∧ _ ∧ _ ∧ _ ∧ AllLt _ _) => l1
  obtain ⟨q1, q2, q3, q4, q5, q6⟩ := l1
  refine hret _ (led a _ [] 0 rest) _ _ (by k_asm) (kst_newsOf kN (by intro p hp; simp only [led, List.mem_cons] at hp; rcases hp with hp | hp | hp | hp | hp | hp <;> simp [hp])) ⟨rfl, _, [], _, .nil, ⟨c1, c2, c3, q3, (fun p hp => Nat.ne_of_lt (kst_ltOf q6 p hp)), r2⟩, rfl⟩
theorem slice_back (its : Array Value) : (slicePick its (some (-2)) none (some (-1))).toList = its.toList.dropLast.reverse := by
  have e : sliceBounds (some (-2)) none (some (-1)) its.size = (((its.size - 1 : Nat) : Int) - 1, -1, -1) := by
    simp only [sliceBounds, Option.getD_some]
    have h1 : ¬ ((-1 : Int) > 0) := by decide
    have h2 : ((-2 : Int) < 0) := by decide
    simp only [h1, h2, if_false, if_true]
    congr 1
    (first | lia | omega)
  unfold slicePick
  rw [e]
  dsimp only
  rw [krv_sliceRange, krv_range, List.filterMap_reverse]
  have h := pick_run its 0 (its.size - 1)
  have e2 : (List.range (its.size - 1)).map (0 + ·) = List.range (its.size - 1) := by
    rw [show ((0 + ·) : Nat → Nat) = id from funext fun k => Nat.zero_add k, List.map_id]
  rw [e2] at h
  rw [h, List.drop_zero, List.dropLast_eq_take]
  simp
theorem mindex_bad0 (t : Int) : OpBad w mean mg mb 177 t [] := by
  refine badN ?_
  intro a N tc k R dp un gd cn cs ad ccd cl outer A₀ base h₀ L m h gn dr tk os Q E mW mWD mST mSD oN aB aF aX aN aT hk9 hd9 hu9 hret
  refine wpAny_call ?_
  k_dflt (refine' code_defC ?k1 ?k2 ?k3 ?k4 ?k5 ?kA ?kF ?kK ?k6 ?k7 ?k8 ?k9 ?kB ?kD ?_ ?c2 ?c3 ?c4; (case kA => exact rfl); (case kF => exact rfl); (case kK => assumption); (case k1 => k_asm); (case k2 => k_asm); (case k3 => k_asm); (case k4 => k_asm); (case k5 => k_asm); (case k6 => k_is); (case k7 => k_is); (case k8 => ktr_room); (case k9 => exact BindsTo.of_eq rfl); (case kB => exact rfl); (case kD => decide +kernel); (case c2 => exact rfl); (case c3 => exact rfl); (case c4 => exact rfl))
  intro g' L' h' tk' cells' FG' F' N' Y' B' X' T' l1; k_lt l1
  have hY := CellsAre.one Y'; obtain ⟨oc, hE', d1⟩ := hY; subst hE'; clear Y'
  replace d1 : oc.data = Data.cell (some (Value.ref a.W)) := d1
  simp only [List.cons_append, List.nil_append] at N'
  (try dsimp only); (try k_fold)
  k_steps
  all_goals ((rename RaisedS _ _ _ _ _ _ _ _ _ => rs); exact hret _ _ _ _ _ _ _ (by assumption) (by first | exact rs | exact Mine.RaisedS.sub rs (by intro p hp; first | exact List.Mem.tail _ hp | exact List.Mem.tail _ (List.Mem.tail _ hp) | exact List.Mem.tail _ (List.Mem.tail _ (List.Mem.tail _ hp)))) (by assumption))
theorem mindex_bad1 (xs : List Int) (x t : Int) (hl : xs.length ≤ 7) (hx : x < 1 ∨ (xs.length : Int) < x) (hb : -(2^40) < x ∧ x < 2^40) : OpBad w mean mg mb 177 t (xs ++ [x]) := by
  refine bad1 fun vs ty hv1 hl2 => ?_
  intro a N tc k R dp un gd cn cs ad ccd cl outer A₀ base h₀ L m h gn dr tk os Q E mW mWD mST mSD oN aB aF aX aN aT hk9 hd9 hu9 hret
  refine wpAny_call ?_
  k_dflt (refine' code_defC ?k1 ?k2 ?k3 ?k4 ?k5 ?kA ?kF ?kK ?k6 ?k7 ?k8 ?k9 ?kB ?kD ?_ ?c2 ?c3 ?c4; (case kA => exact rfl); (case kF => exact rfl); (case kK => assumption); (case k1 => k_asm); (case k2 => k_asm); (case k3 => k_asm); (case k4 => k_asm); (case k5 => k_asm); (case k6 => k_is); (case k7 => k_is); (case k8 => ktr_room); (case k9 => exact BindsTo.of_eq rfl); (case kB => exact rfl); (case kD => decide +kernel); (case c2 => exact rfl); (case c3 => exact rfl); (case c4 => exact rfl))
  intro g' L' h' tk' cells' FG' F' N' Y' B' X' T' l1; k_lt l1
  have hY := CellsAre.one Y'; obtain ⟨oc, hE', d1⟩ := hY; subst hE'; clear Y'
  replace d1 : oc.data = Data.cell (some (Value.ref a.W)) := d1
  simp only [List.cons_append, List.nil_append] at N'
  (try dsimp only); (try k_fold)
  k_steps
  all_goals ((rename RaisedS _ _ _ _ _ _ _ _ _ => rs); exact hret _ _ _ _ _ _ _ (by assumption) (by first | exact rs | exact Mine.RaisedS.sub rs (by intro p hp; first | exact List.Mem.tail _ hp | exact List.Mem.tail _ (List.Mem.tail _ hp) | exact List.Mem.tail _ (List.Mem.tail _ (List.Mem.tail _ hp)))) (by assumption))
theorem mindex_ok (xs : List Int) (x : Int) (hl : xs.length ≤ 7) (h1 : 1 ≤ x) (h2 : x ≤ (xs.length : Int)) (t : Int) :
    OpOk w mean mg mb 177 t (xs ++ [x]) (xs.take (xs.length - x.toNat) ++ xs.drop (xs.length - x.toNat + 1) ++ [xs.getD ((xs.length : Int) - x).toNat 0]) := by
  refine ok1 fun vs ty hv1 hl2 => ?_
  intro a N tc k R dp un gd cn cs ad ccd cl outer A₀ base h₀ L m h gn dr tk os Q E mW mWD mST mSD oN aB aF aX aN aT hk9 hd9 hu9 hret
  have hv := ints_snoc hv1 x ty
  refine wpAny_call ?_
  k_dflt (refine' code_defC ?k1 ?k2 ?k3 ?k4 ?k5 ?kA ?kF ?kK ?k6 ?k7 ?k8 ?k9 ?kB ?kD ?_ ?c2 ?c3 ?c4; (case kA => exact rfl); (case kF => exact rfl); (case kK => assumption); (case k1 => k_asm); (case k2 => k_asm); (case k3 => k_asm); (case k4 => k_asm); (case k5 => k_asm); (case k6 => k_is); (case k7 => k_is); (case k8 => ktr_room); (case k9 => exact BindsTo.of_eq rfl); (case kB => exact rfl); (case kD => decide +kernel); (case c2 => exact rfl); (case c3 => exact rfl); (case c4 => exact rfl))
  intro g' L' h' tk' cells' FG' F' N' Y' B' X' T' l1; k_lt l1
  have hY := CellsAre.one Y'; obtain ⟨oc, hE', d1⟩ := hY; subst hE'; clear Y'
  replace d1 : oc.data = Data.cell (some (Value.ref a.W)) := d1
  simp only [List.cons_append, List.nil_append] at N'
  (try dsimp only); (try k_fold)
  let JJ : Nat → List Value → List (Addr × Obj) → Prop := fun n ys news => ∃ us zs ws hs kk, xs = zs ++ ws ∧ zs.length + x.toNat = xs.length + n ∧ IntsAre us zs ∧ IntsAre ys hs ∧ hs = ws.reverse ∧ news = (L' + 1, oc) :: (N, listOf us.toArray kk) :: R
  k_with "exec Assign cons ListComp" => (k_dflt (refine LCg.Assign_ListComp_U (F₀ := by k_asm) (by rfl) (by with_unfolding_all rfl) (by rfl) (by decide) (by rfl) (by decide) (by rfl) (by rfl) (by rfl) ?_); k_dflt lcg_toSrc)
  k_with "CompSrc" => (
    k_dflt (refine LCg.CompSrc.range (n := (x - 0).toNat) (by rfl) (by k_asm) (by k_asm) (by assumption) (small_one (by (first | lia | omega)) (by (first | lia | omega)) (by (first | lia | omega)) (by (first | lia | omega))) (by first | exact rangeSize_nat _ _ | rfl) (by rw [PySem.sizeLine_eq]; (first | lia | omega)) ?_)
    intro g9
    refine comp_ind JJ ?_ ?_ _ _ _ _ ⟨vs, xs, [], [], _, by simp, by (first | lia | omega), hv1, IntsAre.nil, rfl, rfl⟩
    rotate_left
    k_dflt (
      intro k9 i9 ys news v I oI C oC D m2 h9 tk9 E9 hJ hv9 hC hx F9 N9 off ne
      obtain ⟨us, zs, ws, hs, kk, e1, e2, i1, i2, e3, rfl⟩ := hJ
      obtain ⟨t9, rfl⟩ := hv9
      have hne : us ≠ [] := by
        have := i1.length
        intro e0; subst e0; simp only [List.length_nil] at this; (first | lia | omega)
      obtain ⟨us1, y, ty1, zs1, rfl, rfl, i3⟩ := (ints_last i1).resolve_left (fun h => hne h.1)
      have hl3 := i3.length
      have hl4 := congrArg List.length e1
      simp only [List.length_append, List.length_cons, List.length_nil] at hl4 e2
      have off0 := off
      simp only [LCg.Off3] at off
      clear hne)
    rotate_left
    k_dflt (
      intro ys news hJ
      obtain ⟨us, zs, ws, hs, kk, e1, e2, i1, i2, e3, rfl⟩ := hJ
      have hl3 := i1.length
      have hl5 := i2.length
      have hl4 := congrArg List.length e1
      simp only [List.length_append] at hl4
      have hl6 : hs.length = ws.length := by rw [e3]; simp
      have i5 : IntsAre ys.dropLast.reverse (ws.drop 1) := by
        have := (i2.take (ys.length - 1)).reverse
        rw [← List.dropLast_eq_take, hl5, ← List.dropLast_eq_take, e3] at this
        simpa using this
      have hl7 := i5.length))
  k_with "FinA" => ((unfold LCg.FinA); intro D8 h8 tk8 F8 N8 o8; (try simp only [LCg.Off1, and_true] at o8); (try simp only [List.nil_append, List.cons_append] at N8); (try dsimp only))
  k_with "CompEnd" => (k_dflt (
      rename News _ _ _ _ => kN
      refine LCg.CompEnd.intro (by assumption) kN ((L' + 1, oc) :: (N, listOf us1.toArray (kk + 1)) :: R) (fun p hp => hp) off0 trivial ⟨us1, zs1, y :: ws, hs ++ [y], kk + 1, by simp [e1], by (first | lia | omega), i3, ints_snoc i2 _ _, by simp [e3], rfl⟩))
  k_with "subscriptTail Name Slice ref ref" => (k_dflt (refine' kmk_slice3_lit (zs := ys.dropLast.reverse) ?slF ?slN ?sll ?slp ?slq ?slk ?slo ?sle ?_ ?sls ?slt ?slz; (case slF => k_asm); (case slN => k_asm); (case sll => kmk_list); (case slp => kmk_part); (case slq => kmk_part); (case slk => kmk_part); (case slo => decide); (case sle => exact slice_back _); (case sls => with_unfolding_all rfl); (case slt => kmk_pure); (case slz => (simp only [List.size_toArray]; rw [PySem.sizeLine_eq]; (first | lia | omega)))); intro D9 h9 F9 N9 l9; (try k_lt l9); (try k_sweep))
  k_with "pyIter ref" => (
    rename News _ _ _ _ => kN
    k_dflt (refine loopL (fun i nx => ∃ uu nk, IntsAre uu (zs ++ (ws.drop 1).take i) ∧ nx = (D9, listOf ys.dropLast.reverse.toArray 0) :: (D8, LCg.lst ys) :: (L' + 1, oc) :: (N, listOf uu.toArray nk) :: R) (by rfl) (by k_mem) i5 (by k_asm) kN ⟨us, kk, by simpa using i1, rfl⟩ ?_ ?_)
    k_dflt (
      intro i9 n9 t9 nx h9 tk9 own hn hoff hmem hJ F9 N9
      obtain ⟨uu, nk, i6, hJ⟩ := hJ
      subst hJ
      replace F9 : Fr g' L' h9 _ := F9
      replace N9 : News g' L' h9 _ := N9
      simp only [List.cons_append] at N9
      have r9 : ∀ p ∈ R ++ own, p.1 ≠ N := by
        intro p hp
        rcases List.mem_append.mp hp with q | q
        · exact oN p q
        · exact hoff p q N (by simp)
      have mW9 := List.mem_append_left own mW
      have mWD9 := List.mem_append_left own mWD
      have mST9 := List.mem_append_left own mST
      have mSD9 := List.mem_append_left own mSD
      have hl8 : i9 < (ws.drop 1).length := (List.getElem?_eq_some_iff.mp hn).1
      have hl0 : (ws.drop 1).length = ws.length - 1 := List.length_drop ..
      have hl9 : uu.length = zs.length + i9 := by
        rw [i6.length, List.length_append, List.length_take]; (first | lia | omega))
    rotate_left
    k_dflt (
      intro u nx h9 tk9 hJ F9 N9
      obtain ⟨uu, nk, i6, hJ⟩ := hJ
      subst hJ
      replace F9 : Fr g' L' h9 _ := F9
      replace N9 : News g' L' h9 _ := N9
      rw [List.take_length] at i6
      have hl0 : (ws.drop 1).length = ws.length - 1 := List.length_drop ..
      have hl9 : uu.length = zs.length + (ws.length - 1) := by
        rw [i6.length, List.length_append, hl0]))
  k_with "InvEndN" => (k_dflt (
      rename News _ _ _ _ => kN
      refine InvEndN.intro (nx := (D9, listOf ys.dropLast.reverse.toArray 0) :: (D8, LCg.lst ys) :: (L' + 1, oc) :: (N, listOf (uu ++ [Value.int n9 t9]).toArray (nk + 1)) :: R) (by assumption) kN
        ⟨List.Mem.head _, ⟨uu ++ [Value.int n9 t9], nk + 1, (by rw [List.take_add_one, hn, ← List.append_assoc]; exact ints_snoc i6 _ _), rfl⟩, (by intro z hz; exact if_neg hz)⟩ (by rfl)
        (by intro p hp; simp only [List.mem_cons, List.mem_append] at hp ⊢; rcases hp with hp | hp | hp | hp | hp <;> simp [hp]) (by intro p hp; first | ((repeat' (first | exact hp | apply List.Mem.tail)); done) | simp [hp])))
  k_steps
  all_goals (
    rename News _ _ _ _ => kN
    have e7 : xs.take (xs.length - x.toNat) = zs := by rw [show xs.length - x.toNat = zs.length by (first | lia | omega), e1]; simp
    have e8 : xs.drop (xs.length - x.toNat + 1) = ws.drop 1 := by rw [show xs.length - x.toNat + 1 = zs.length + 1 by (first | lia | omega), e1]; simp
    refine hret _ _ _ _ (by k_asm) (kst_newsOf kN (by intro p hp; first | exact hp | exact List.Mem.tail _ hp | exact List.Mem.tail _ (List.Mem.tail _ hp) | exact List.Mem.tail _ (List.Mem.tail _ (List.Mem.tail _ hp)))) ?_
    rw [e7, e8, ← hl2]
    exact ints_snoc i6 _ _)
end
end

section
open PySem PySem.W PyProof.Rows PySem.Calls
theorem kwHeard : True := by
  k_with_none
  w_top off
  trivial
section
variable {w : World} {mean : ExcName → Option Value} {mg mb : Str → Option Value} {f : Addr} {dd uu : Nat} {news : List (Addr × Obj)} {vs : List Value}
  {dp un : Nat} {gd : Option (List Code)} {cn : Str} {cs : Scope} {a : Addr} {ccd : Value} {cl : List (Str × Addr)} {outer : List Env} {A₀ : Around} {base h₀ : Heap} {L : Addr} {m : Str → Option Value} {s : Shared} {Q E : Value → Shared → Prop}
theorem kwHeard_1 : True := by
  k_with_none
  k_with "storeName" => ((k_dflt (refine' storeL ?F ?N ?a ?b ?_; (case F => k_asm); (case N => k_asm); (case a => rfl); (case b => rfl); k_whole; intro mszz hszz tszz Fszz Nszz; (try k_sweep))))
  k_with "leaveF" => ((k_dflt (first | (refine' leaveF_ret ?k1 ?k2 ?_; (case k1 => k_asm); (case k2 => k_asm); k_whole) | (refine' leaveF_next ?k1 ?k2 ?_; (case k1 => k_asm); (case k2 => k_asm); k_whole)); intro kFlzz kNlzz; ground_anew kFlzz))
  k_with "ktr_room" => (((try dsimp only [depth_under_make, depth_under_kw, depth_in1, depth_deeper]); first | exact room1 (by assumption) (by decide) | exact room2 (by assumption) (by decide) | exact room0 (by assumption) | exact room3 (by assumption) (by decide) | exact room4 (by assumption) (by decide)))
  k_with "ktr_units" => (((try dsimp only [units_under_make, units_in1, units_deeper, Around.mark_units]); first | exact room1 (by assumption) (by decide) | exact room2 (by assumption) (by decide) | exact room0 (by assumption) | exact room3 (by assumption) (by decide) | exact room4 (by assumption) (by decide)))
  k_with "k_ne" => ((refine neN ?_; (try dsimp only); first | assumption | exact Ne.symm (by assumption) | exact Nat.ne_of_gt (by assumption) | exact Nat.ne_of_lt (by assumption) | exact neP1 (by assumption) | exact neP2 (by assumption) | exact neP3 (by assumption) | exact neP4 (by assumption) | exact neP5 (by assumption)))
  trivial
theorem useM {Post : List (Addr × Obj) → Value → Prop} (c : CbM w mean mg mb f dd uu news vs Post) (B : Below A₀ base outer h₀) (F : Fr h₀ L s.heap m) (X : (hd.heap_1 w.params).In h₀) (N : News h₀ L s.heap news) (T : Top hd.view_39 (looseW hd.view_39 [Str.ofString "HintWork"]) mean mg mb h₀)
    (hk : cs.kind = .function) (hd' : dp + dd < recursionLimit) (hu : un + uu < cLine) (ret : ∀ r n' h' tk', Post n' r → Fr h₀ L h' m → News h₀ L h' n' → Q r { s with heap := h', toks := tk' }) :
    wpAny (model PySem.Challenge.rw_pf0201_01.row.prog w) (ktrTop dp un gd cn cs L a ccd cl outer) (call (.ref f) vs) Q E s :=
  c _ _ _ _ _ _ _ _ _ _ _ _ _ _ _ _ _ B F X N T hk hd' hu fun r n' h' tk' F' N' hp => ret r n' h' tk' hp F' N'
end
section
variable {w : World} {mean : ExcName → Option Value} {mg mb : Str → Option Value}
/-- an op, told with what it leaves behind the work -/
theorem kwHeard_2 : True := by
  k_with_none
  k_with "storeName" => ((k_dflt (refine' storeL ?F ?N ?a ?b ?_; (case F => k_asm); (case N => k_asm); (case a => rfl); (case b => rfl); k_whole; intro mszz hszz tszz Fszz Nszz; (try k_sweep))))
  k_with "leaveF" => ((k_dflt (first | (refine' leaveF_ret ?k1 ?k2 ?_; (case k1 => k_asm); (case k2 => k_asm); k_whole) | (refine' leaveF_next ?k1 ?k2 ?_; (case k1 => k_asm); (case k2 => k_asm); k_whole)); intro kFlzz kNlzz; ground_anew kFlzz))
  k_with "ktr_room" => (((try dsimp only [depth_under_make, depth_under_kw, depth_in1, depth_deeper]); first | exact room1 (by assumption) (by decide) | exact room2 (by assumption) (by decide) | exact room0 (by assumption) | exact room3 (by assumption) (by decide) | exact room4 (by assumption) (by decide)))
  k_with "ktr_units" => (((try dsimp only [units_under_make, units_in1, units_deeper, Around.mark_units]); first | exact room1 (by assumption) (by decide) | exact room2 (by assumption) (by decide) | exact room0 (by assumption) | exact room3 (by assumption) (by decide) | exact room4 (by assumption) (by decide)))
  k_with "k_ne" => ((refine neN ?_; (try dsimp only); first | assumption | exact Ne.symm (by assumption) | exact Nat.ne_of_gt (by assumption) | exact Nat.ne_of_lt (by assumption) | exact neP1 (by assumption) | exact neP2 (by assumption) | exact neP3 (by assumption) | exact neP4 (by assumption) | exact neP5 (by assumption)))
  k_with "k_all" => (assumption)
  k_with "execs cons" => (((with_reducible show wpAny _ _ _ _ _ (PySem.Shared.mk _ _ _ (_ + 1) _)); refine genToks ?_; intro tk9zz))
  k_with "eval Constant int" => ((refine constG ?_; intro t9zz tk9zz))
  k_with "ke_room" => (ktr_units)
  trivial
noncomputable def OpR (w : World) (mean : ExcName → Option Value) (mg mb : Str → Option Value) (f : Addr) (c : Int) (tc : Tok) (a : WA) (N : Nat) (vs : List Value) (k : Nat) (rest : List (Addr × Obj)) (ys : List Int) (P : List (Addr × Obj) → Prop) : Prop :=
  ∀ d o, (∀ p ∈ led a N vs k rest, p.1 < d) → CbM w mean mg mb f 40 2000 (led a N vs k (rest ++ [(d, o)])) [.ref a.W, .int c tc] (fun n' r => r = .none ∧ ∃ N' vs' k' rest', IntsAre vs' ys ∧ Chain a N' rest' ∧ P rest' ∧ n' = led a N' vs' k' (rest' ++ [(d, o)]))
theorem heard_ok {f : Addr} {c : Int} {tc : Tok} {a : WA} {N : Nat} {vs : List Value} {k : Nat} {rest : List (Addr × Obj)} {ys : List Int} {P : List (Addr × Obj) → Prop} (hf : valueAt opsF c = some (.ref f)) (hkp : keepIn (hd.heap_1 w.params) (.ref f) = true) (hys : ys.length ≤ 100) (op : OpR w mean mg mb f c tc a N vs k rest ys P) :
    CbM w mean mg mb 548 100 5000 (led a N vs k rest) [.ref a.W, .int c tc] (fun n' r => ∃ D N' vs' k' rest' k2, r = .ref D ∧ IntsAre vs' ys ∧ Chain a N' rest' ∧ P rest' ∧ n' = (D, listOf vs'.toArray k2) :: led a N' vs' k' rest' ∧ ∀ p ∈ led a N' vs' k' rest', p.1 < D) := by
  refine CbM_mk ?_; intro dpY unY gdY cnY csY acY ccY clY ouY a0Y baY h0Y LY mY shY sgY sdY skY soY QY EY aB aF aX aN aT akY adY auY hret
  k_dflt (refine' enterM ?k1 ?k2 ?k3 ?k4 ?k5 ?kA ?kF ?kK ?k6 ?k7 ?k8 ?k9 ?kB ?_ ?c2 ?c3 ?c4 ?c5; (case kA => exact rfl); (case kF => exact rfl); (case kK => assumption); (case k1 => k_asm); (case k2 => k_asm); (case k3 => k_asm); (case k4 => k_asm); (case k5 => k_asm); (case k6 => k_is); (case k7 => k_is); (case k8 => first | ktr_room | k_room); (case k9 => first | exact BindsTo.of_eq rfl | exact binds_K (by k_in) rfl (by k_is) rfl rfl rfl); (case c5 => decide); (case kB => exact locs rfl); (case c2 => exact rfl); (case c3 => exact rfl); (case c4 => exact rfl); k_whole; intro mq g' L' hq tq FGq Fq Nq Bq Xq Tq qkq ekq)
  k_with_none
  k_with "storeName" => ((k_dflt (refine' storeL ?F ?N ?a ?b ?_; (case F => k_asm); (case N => k_asm); (case a => rfl); (case b => rfl); k_whole; intro mszz hszz tszz Fszz Nszz; (try k_sweep))))
  k_with "leaveF" => ((k_dflt (first | (refine' leaveF_ret ?k1 ?k2 ?_; (case k1 => k_asm); (case k2 => k_asm); k_whole) | (refine' leaveF_next ?k1 ?k2 ?_; (case k1 => k_asm); (case k2 => k_asm); k_whole)); intro kFlzz kNlzz; ground_anew kFlzz))
  k_with "ktr_room" => (((try dsimp only [depth_under_make, depth_under_kw, depth_in1, depth_deeper]); first | exact room1 (by assumption) (by decide) | exact room2 (by assumption) (by decide) | exact room0 (by assumption) | exact room3 (by assumption) (by decide) | exact room4 (by assumption) (by decide)))
  k_with "ktr_units" => (((try dsimp only [units_under_make, units_in1, units_deeper, Around.mark_units]); first | exact room1 (by assumption) (by decide) | exact room2 (by assumption) (by decide) | exact room0 (by assumption) | exact room3 (by assumption) (by decide) | exact room4 (by assumption) (by decide)))
  k_with "k_ne" => ((refine neN ?_; (try dsimp only); first | assumption | exact Ne.symm (by assumption) | exact Nat.ne_of_gt (by assumption) | exact Nat.ne_of_lt (by assumption) | exact neP1 (by assumption) | exact neP2 (by assumption) | exact neP3 (by assumption) | exact neP4 (by assumption) | exact neP5 (by assumption)))
  k_with "k_all" => (assumption)
  k_with "execs cons" => (((with_reducible show wpAny _ _ _ _ _ (PySem.Shared.mk _ _ _ (_ + 1) _)); refine genToks ?_; intro tk9zz))
  k_with "eval Constant int" => ((refine constG ?_; intro t9zz tk9zz))
  k_with "ke_room" => (ktr_units)
  k_with "spliced" => first | ((with_reducible show wpAny _ _ (spliced (backTo _ (starEach [PySem.Expr.Name _ _] _))) _ _ _); k_dflt (refine' argsN ?hF ?h0 rfl rfl rfl ?_; (case hF => k_asm); (case h0 => exact rfl); k_whole)) | ((with_reducible show wpAny _ _ (spliced (backTo _ (starEach [PySem.Expr.Constant (Const.int _) _ _] _))) _ _ _); refine argsC ?_; intro t9 tk9) | ((with_reducible show wpAny _ _ (spliced (backTo _ (starEach [PySem.Expr.Name _ _, PySem.Expr.Name _ _] _))) _ _ _); k_dflt (refine' argsNN ?hF ?h0 ?h1 rfl rfl rfl rfl rfl ?_; (case hF => k_asm); (case h0 => exact rfl); (case h1 => exact rfl); k_whole)) | ((with_reducible show wpAny _ _ (spliced (backTo _ (starEach [PySem.Expr.Name _ _, PySem.Expr.Constant (Const.int _) _ _] _))) _ _ _); k_dflt (refine' argsNC ?hF ?h0 rfl rfl rfl ?_; (case hF => k_asm); (case h0 => exact rfl); k_whole); intro t9 tk9) | ((with_reducible show wpAny _ _ (spliced (backTo _ (starEach [PySem.Expr.Name _ _, PySem.Expr.Name _ _, PySem.Expr.Name _ _] _))) _ _ _); k_dflt (refine' argsNNN ?hF ?h0 ?h1 ?h2 rfl rfl rfl rfl rfl rfl rfl ?_; (case hF => k_asm); (case h0 => exact rfl); (case h1 => exact rfl); (case h2 => exact rfl); k_whole))
  k_with "isTrue Compare" => ((with_reducible show wpAny _ _ (isTrue (PySem.Expr.Compare (PySem.Expr.Name _ _) [_] [PySem.Expr.Constant (Const.int _) _ _] _) _ _) _ _ _); k_dflt (refine' tsNC ?hF ?h0 ?hc rfl rfl rfl ?_; (case hF => k_asm); (case h0 => exact rfl); (case hc => exact rfl); k_whole); intro tk9)
  k_with "execs cons" => first | ((with_reducible show wpAny _ _ _ _ _ (PySem.Shared.mk _ _ _ (_ + 1) _)); refine genToks ?_; intro tk9) | (refine consQ ?_; intro q9)
  k_with "flowQ" => first | (refine flow_next ?_) | (refine flow_ret ?_)
  k_with "exec Try cons cons nil nil" => (refine wpAny_Try_except ?_)
  k_with "call ref" => first
    | ((with_reducible show wpAny _ _ (call (Value.ref 324) _) _ _ _); k_dflt (refine' useM (sops_c _) ?uB ?uF ?uX ?uN ?uT ?uk ?ud ?uu ?_; (case uB => k_asm); (case uF => k_asm); (case uX => k_asm); (case uN => k_asm); (case uT => k_asm); (case uk => exact rfl); (case ud => ktr_room); (case uu => ktr_units); k_whole; intro r6 n6 h6 tk6 P6 F6 N6; obtain ⟨d6, o6, rfl, rfl, l6, hd6⟩ := P6))
    | ((try dsimp only [List.nil_append, List.cons_append]); k_dflt (refine' useM (op d6 o6 l6) ?vB ?vF ?vX ?vN ?vT ?vk ?vd ?vu ?_; (case vB => k_asm); (case vF => k_asm); (case vX => k_asm); (case vN => (rename News _ _ _ _ => lN'; exact fun p hp => lN' p (back_front (l := led a N vs k rest) hp))); (case vT => k_asm); (case vk => exact rfl); (case vd => ktr_room); (case vu => ktr_units); k_whole; intro r5 n5 h5 tk5 P5 F5 N5; obtain ⟨rfl, N7, vs7, k7, rest7, i7, c7, p7, rfl⟩ := P5; have hl7 := i7.length; obtain ⟨c71, c72, c73, c74, c75, c76⟩ := c7))
  k_with "last subscriptTail" => ((k_dflt (refine kdt_tail (knd := PySem.intKind _ _) (by k_asm) (List.Mem.head _) (by k_asm) ?_)))
  k_with "callWith ref" => (k_here; k_dflt (refine' callWith_K ?k1 ?k2 ?_; (case k1 => k_asm); (case k2 => exact hkp); k_whole))
  k_with "getItem ref int" => (k_dflt (refine kdt_getItem (knd := PySem.intKind _ _) (by k_asm) (List.Mem.head _) (by k_asm) (isInt_self _ _) hf ?_))
  k_with "call type:list" => (k_dflt ((rename Fr _ _ _ _ => lF'); (rename News _ _ _ _ => lN'); (refine' kup_listOf (zs := vs7) lF' lN' ?lb ?le ?_ ?lz; (case lb => exact List.mem_cons_of_mem _ (List.mem_cons_of_mem _ (List.mem_cons_of_mem _ (List.mem_cons_of_mem _ List.mem_cons_self)))); (case le => rfl); (case lz => (simp only [List.size_toArray]; rw [PySem.sizeLine_eq]; omega))); intro D8 k8 h8 F8 N8 l8))
  k_steps
  all_goals (
    rename News _ _ _ _ => kN
    refine hret _ ((D8, listOf vs7.toArray k8) :: led a N7 vs7 k7 rest7) _ _ (by k_asm) (kst_newsOf kN (by intro p hp; rcases List.mem_cons.mp hp with q | q; exact q ▸ List.mem_cons_self; exact List.mem_cons_of_mem _ (show p ∈ led a N7 vs7 k7 rest7 ++ [(d6, o6)] from List.mem_append_left _ q))) ⟨D8, N7, vs7, k7, rest7, k8, rfl, i7, ⟨c71, c72, c73, c74, c75, c76⟩, p7, rfl, fun p hp => l8 p (show p ∈ led a N7 vs7 k7 rest7 ++ [(d6, o6)] from List.mem_append_left _ hp)⟩)
end
theorem exK {α : Type} {A B : α → Prop} {G : Prop} (h : ∃ x, A x ∧ B x) (k : ∀ x, A x → B x → G) : G := let ⟨x, a, b⟩ := h; k x a b
section
variable {w : World} {mean : ExcName → Option Value} {mg mb : Str → Option Value} {news : List (Addr × Obj)}
  {dp un : Nat} {gd : Option (List Code)} {cn : Str} {cs : Scope} {a : Addr} {ccd : Value} {cl : List (Str × Addr)} {outer : List Env} {A₀ : Around} {base h₀ : Heap} {L : Addr} {m : Str → Option Value} {s : Shared} {Q E : Value → Shared → Prop}
theorem useHeard {c : Int} {tc : Tok} {aa : WA} {N : Nat} {us : List Value} {k : Nat} {rest : List (Addr × Obj)} {ys : List Int} {P : List (Addr × Obj) → Prop}
    (hc : CbM w mean mg mb 548 100 5000 (led aa N us k rest) [.ref aa.W, .int c tc] (fun n' r => ∃ D N' vs' k' rest' k2, r = .ref D ∧ IntsAre vs' ys ∧ Chain aa N' rest' ∧ P rest' ∧ n' = (D, listOf vs'.toArray k2) :: led aa N' vs' k' rest' ∧ ∀ p ∈ led aa N' vs' k' rest', p.1 < D))
    (B : Below A₀ base outer h₀) (F : Fr h₀ L s.heap m) (X : (hd.heap_1 w.params).In h₀) (N0 : News h₀ L s.heap (led aa N us k rest)) (T : Top hd.view_39 (looseW hd.view_39 [Str.ofString "HintWork"]) mean mg mb h₀)
    (hk : cs.kind = .function) (hd' : dp + 100 < recursionLimit) (hu : un + 5000 < cLine)
    (ret : ∀ (D N' : Nat) (vs' : List Value) (k' : Nat) (rest' : List (Addr × Obj)) (k2 : Nat) (h' : Heap) (tk' : Nat), IntsAre vs' ys → Chain aa N' rest' → P rest' → N' < D → Fr h₀ L h' m → News h₀ L h' ((D, listOf vs'.toArray k2) :: led aa N' vs' k' rest') → Q (.ref D) { s with heap := h', toks := tk' }) :
    wpAny (model PySem.Challenge.rw_pf0201_01.row.prog w) (ktrTop dp un gd cn cs L a ccd cl outer) (call (.ref 548) [.ref aa.W, .int c tc]) Q E s :=
  useM hc B F X N0 T hk hd' hu fun r n' h' tk' P' F' N' => by
    obtain ⟨D, N1, vs', k', rest', k2, rfl, i, c, p, rfl, hD⟩ := P'
    exact ret D N1 vs' k' rest' k2 h' tk' i c p (hD (N1, listOf vs'.toArray k') (.tail _ (.tail _ (.tail _ (.tail _ (.head _)))))) F' N'
end
end

section
open PySem PySem.W PyProof.Rows PySem.Calls PySem.Spec
theorem kwCaught : True := by
  k_with_none
  w_top off
  trivial
noncomputable abbrev InK (w : World) (h : Heap) : Prop := (hd.heap_1 w.params).In h
noncomputable abbrev TopK (mean : ExcName → Option Value) (mg mb : Str → Option Value) (h : Heap) : Prop := Top hd.view_39 (looseW hd.view_39 [Str.ofString "HintWork"]) mean mg mb h
noncomputable abbrev frs (l : List Env) : List Addr := l.filterMap (·.frame)
section
variable {w : World} {A₀ : Around} {E : Value → Shared → Prop} {s' : Shared} {base g g₀ G : Heap} {outer : List Env} {L a e t : Addr} {m : Str → Option Value} {name : Str} {scope : Scope} {cd : Value}
  {vs : List Value} {b₀ : Stmt} {suite : List Stmt} {pos np : Pos} {rest : List ExceptHandler} {Q : Flow → Shared → Prop} {news : List (Addr × Obj)} {mean : ExcName → Option Value} {mg mb : Str → Option Value}
/-- an except clause of HintFault takes a HintFault -/
theorem caught_H (R : RaisedS base G (envOf name scope L a cd :: outer) e (.ref 51) t vs news s'.heap) (F : Fr g L G m) (K : Below A₀ base outer g) (hsm : G.UpToSlots s'.heap) (XB : InK w base) (TB : TopK mean mg mb base)
    (D : KtsDicts (frs outer) g) (T0 : KtsTurn (frs outer) g₀ g)
    (k : ∀ h' g', KtsTurn (frs outer) g₀ g' → Fr g' L h' m → News g' L h' news → Below A₀ base outer g' → InK w g' → TopK mean mg mb g' → KtsDicts (frs outer) g' →
      wpAny (model PySem.Challenge.rw_pf0201_01.row.prog w) ((A₀.deeper (envOf name scope L a cd)).mark (some (.ref e))) (execs (b₀ :: suite) (envOf name scope L a cd)) Q E { s' with heap := h' })
    (hk : scope.kind = .function := by rfl) (hx : (envOf name scope L a cd).kindOf "HintFault" = some .globalImplicit := by rfl)
    (hE : PassesOwnAt (model PySem.Challenge.rw_pf0201_01.row.prog w) ((A₀.deeper (envOf name scope L a cd)).mark (some (.ref e))) (A₀.deeper (envOf name scope L a cd)) (envOf name scope L a cd) E := by passes_own) :
    wpAny (model PySem.Challenge.rw_pf0201_01.row.prog w) (A₀.deeper (envOf name scope L a cd)) (noteFrame (.ref e) (envOf name scope L a cd))
      (fun _ s₂ => wpAny (model PySem.Challenge.rw_pf0201_01.row.prog w) (A₀.deeper (envOf name scope L a cd)) (setFlight (.ref e) none) (fun _ s₃ =>
        wpAny (model PySem.Challenge.rw_pf0201_01.row.prog w) (A₀.deeper (envOf name scope L a cd)) (handleBy (.ref e) (envOf name scope L a cd) (.ExceptHandler (some (.Name "HintFault" np)) none (b₀ :: suite) pos :: rest)) Q E s₃) E s₂) E s' := by
  obtain ⟨⟨B, hB, hBG, hl, hfl, hnew⟩, htup⟩ := R
  have hL : B.get? L = none := by
    obtain ⟨_, ⟨L', _, hf, hn', _⟩, _⟩ := hfl.2.2.1
    obtain rfl : L = L' := Option.some.inj hf
    exact hn'
  refine wpAny_looks_onW (Around.frames_deeper K.stack) rfl hfl fun h₄ hheld₄ hsm₄ => ?_
  refine wpAny_landsW hheld₄ fun h₅ hheld hsm₅' => ?_
  have hsm₅ := hsm₄.trans hsm₅'
  obtain ⟨g₅, T₅, F₅, K₅⟩ := kts_ground K F hBG hheld.1 (hsm.trans hsm₅)
  have X₅ : InK w g₅ := XB.keeps K₅.stays
  have P₅ : TopRead hd.view_39 (looseW hd.view_39 [Str.ofString "HintWork"]) mg mb g₅ := topRead_of (TB.keeps K₅.stays)
  obtain ⟨ob, hob, hobc⟩ := hheld.there
  have hC₅ := F₅.keep _ _ (X₅ 51 _ (by k_is))
  refine wpAny_handleBy_cons (codeAny_handlers_test (name_K F₅ X₅ P₅ (v := .ref 51) (by k_is) ?_ hk hx (by decide))) (by intro q; cases q)
  refine wpAny_excMatches_sub_self (bm := bmH 38) hC₅ hob hobc (by decide) (codeAny_handlers_suite ?_)
  refine lands_againW hheld fun h₆ hfl₆ hsm₆ => ?_
  obtain ⟨g₆, T₆, F₆, K₆⟩ := kts_ground K F hBG hfl₆.1 ((hsm.trans hsm₅).trans hsm₆)
  have Nl : News g₆ L h₆ news := fun q hq => ⟨hfl₆.1 _ _ (hl q hq).1, (fun z => by have := (hl q hq).1; rw [z, hL] at this; cases this), T₆.none_ _ (kts_none F.keep (hl q hq).2.1)⟩
  exact wpAny_passesOwnAt hE (k h₆ g₆ (T0.trans T₆) F₆ Nl K₆ (XB.keeps K₆.stays) (TB.keeps K₆.stays) (D.turn T₆))
end
/-- the shape of a contract after which the outer frames' slots may have turned -/
noncomputable abbrev CbS (w : World) (mean : ExcName → Option Value) (mg mb : Str → Option Value) (f : Addr) (dd uu : Nat) (news : List (Addr × Obj)) (vs : List Value) (Post : List (Addr × Obj) → Value → Prop) : Prop :=
  ∀ (dp un : Nat) (gd : Option (List Code)) (cn : Str) (cs : Scope) (a : Addr) (ccd : Value) (outer : List Env) (A₀ : Around) (base h₀ : Heap) (L : Addr) (m : Str → Option Value) (s : Shared) (Q E : Value → Shared → Prop),
    Below A₀ base outer h₀ → Fr h₀ L s.heap m → InK w h₀ → News h₀ L s.heap news → TopK mean mg mb h₀ → InK w base → TopK mean mg mb base → KtsDicts (frs outer) h₀ → cs.kind = .function →
    dp + dd < recursionLimit → un + uu < cLine →
    (∀ (r : Value) (news' : List (Addr × Obj)) (h' : Heap) (tk' : Nat) (h₀' : Heap), KtsTurn (frs outer) h₀ h₀' → Fr h₀' L h' m → News h₀' L h' news' → Below A₀ base outer h₀' → InK w h₀' → TopK mean mg mb h₀' → KtsDicts (frs outer) h₀' → Post news' r → Q r { s with heap := h', toks := tk' }) →
      wpAny (model PySem.Challenge.rw_pf0201_01.row.prog w) (ktrTop dp un gd cn cs L a ccd [] outer) (call (.ref f) vs) Q E s
theorem CbM.toS {w : World} {mean : ExcName → Option Value} {mg mb : Str → Option Value} {f : Addr} {dd uu : Nat} {news : List (Addr × Obj)} {vs : List Value} {Post : List (Addr × Obj) → Value → Prop} (c : CbM w mean mg mb f dd uu news vs Post) : CbS w mean mg mb f dd uu news vs Post := by
  intro dp un gd cn cs a ccd outer A₀ base h₀ L m s Q E B F X N T XB TB D hk hd' hu ret
  exact c dp un gd cn cs a ccd [] outer A₀ base h₀ L m s Q E B F X N T hk hd' hu fun r n' h' tk' F' N' P' => ret r n' h' tk' h₀ KtsTurn.refl F' N' B X T D P'
end

section
open PySem PySem.W PyProof.Rows PySem.Calls
theorem kwHeard2 : True := by
  k_with_none
  w_top off
  trivial
section
variable {w : World} {mean : ExcName → Option Value} {mg mb : Str → Option Value}
theorem kwHeard2_1 : True := by
  k_with_none
  k_with "storeName" => ((k_dflt (refine' storeL ?F ?N ?a ?b ?_; (case F => k_asm); (case N => k_asm); (case a => rfl); (case b => rfl); k_whole; intro mszz hszz tszz Fszz Nszz; (try k_sweep))))
  k_with "leaveF" => ((k_dflt (first | (refine' leaveF_ret ?k1 ?k2 ?_; (case k1 => k_asm); (case k2 => k_asm); k_whole) | (refine' leaveF_next ?k1 ?k2 ?_; (case k1 => k_asm); (case k2 => k_asm); k_whole)); intro kFlzz kNlzz; ground_anew kFlzz))
  k_with "ktr_room" => (((try dsimp only [depth_under_make, depth_under_kw, depth_in1, depth_deeper]); first | exact room1 (by assumption) (by decide) | exact room2 (by assumption) (by decide) | exact room0 (by assumption) | exact room3 (by assumption) (by decide) | exact room4 (by assumption) (by decide)))
  k_with "ktr_units" => (((try dsimp only [units_under_make, units_in1, units_deeper, Around.mark_units]); first | exact room1 (by assumption) (by decide) | exact room2 (by assumption) (by decide) | exact room0 (by assumption) | exact room3 (by assumption) (by decide) | exact room4 (by assumption) (by decide)))
  k_with "k_ne" => ((refine neN ?_; (try dsimp only); first | assumption | exact Ne.symm (by assumption) | exact Nat.ne_of_gt (by assumption) | exact Nat.ne_of_lt (by assumption) | exact neP1 (by assumption) | exact neP2 (by assumption) | exact neP3 (by assumption) | exact neP4 (by assumption) | exact neP5 (by assumption)))
  k_with "k_all" => (assumption)
  k_with "execs cons" => (((with_reducible show wpAny _ _ _ _ _ (PySem.Shared.mk _ _ _ (_ + 1) _)); refine genToks ?_; intro tk9zz))
  k_with "eval Constant int" => ((refine constG ?_; intro t9zz tk9zz))
  k_with "ke_room" => (ktr_units)
  trivial
noncomputable def OpE (w : World) (mean : ExcName → Option Value) (mg mb : Str → Option Value) (f : Addr) (c : Int) (tc : Tok) (a : WA) (N : Nat) (vs : List Value) (k : Nat) (rest : List (Addr × Obj)) : Prop :=
  ∀ d o, (∀ p ∈ led a N vs k rest, p.1 < d) → CbE w mean mg mb f 40 2000 (led a N vs k (rest ++ [(d, o)])) [.ref a.W, .int c tc] rest
theorem heard_bad {f : Addr} {c : Int} {tc : Tok} {a : WA} {N : Nat} {vs : List Value} {k : Nat} {rest : List (Addr × Obj)} (hf : valueAt opsF c = some (.ref f)) (hkp : keepIn (hd.heap_1 w.params) (.ref f) = true) (op : OpE w mean mg mb f c tc a N vs k rest) :
    CbS w mean mg mb 548 100 5000 (led a N vs k rest) [.ref a.W, .int c tc] (fun n' r => r = .none ∧ n' = rest) := by
  intro dpY unY gdY cnY csY acY ccY ouY a0Y baY h0Y LY mY sY QY EY aB aF aX aN aT aXB aTB aD akY adY auY hret
  refine wpAny_call ?_
  k_dflt (refine' code_defS (K := hd.heap_1 w.params) ?k1 ?k2 ?k3 ?k4 ?k5 ?k6 ?k7 ?k8 ?k9 ?kA ?kB ?kC ?kD ?kE ?kF ?_ ?c1 ?c2 ?c3 ?c4 ?c5; (case k1 => k_asm); (case k2 => k_asm); (case k3 => k_asm); (case k4 => k_asm); (case k5 => k_asm); (case k6 => k_asm); (case k7 => k_asm); (case k8 => k_asm); (case k9 => exact KtsTurn.refl); (case kA => exact rfl); (case kB => k_is); (case kC => k_is); (case kD => ktr_room); (case kE => exact BindsTo.of_eq rfl); (case kF => exact locs rfl); (case c1 => assumption); (case c2 => exact rfl); (case c3 => exact rfl); (case c4 => exact rfl); (case c5 => decide); k_whole; intro g' L' h' FG' F' N' B' X' T' D'; (try dsimp only); (try k_lift B'); (try k_fold))
  k_with_none
  k_with "storeName" => ((k_dflt (refine' storeL ?F ?N ?a ?b ?_; (case F => k_asm); (case N => k_asm); (case a => rfl); (case b => rfl); k_whole; intro mszz hszz tszz Fszz Nszz; (try k_sweep))))
  k_with "leaveF" => ((k_dflt (first | (refine' leaveF_ret ?k1 ?k2 ?_; (case k1 => k_asm); (case k2 => k_asm); k_whole) | (refine' leaveF_next ?k1 ?k2 ?_; (case k1 => k_asm); (case k2 => k_asm); k_whole)); intro kFlzz kNlzz; ground_anew kFlzz))
  k_with "ktr_room" => (((try dsimp only [depth_under_make, depth_under_kw, depth_in1, depth_deeper]); first | exact room1 (by assumption) (by decide) | exact room2 (by assumption) (by decide) | exact room0 (by assumption) | exact room3 (by assumption) (by decide) | exact room4 (by assumption) (by decide)))
  k_with "ktr_units" => (((try dsimp only [units_under_make, units_in1, units_deeper, Around.mark_units]); first | exact room1 (by assumption) (by decide) | exact room2 (by assumption) (by decide) | exact room0 (by assumption) | exact room3 (by assumption) (by decide) | exact room4 (by assumption) (by decide)))
  k_with "k_ne" => ((refine neN ?_; (try dsimp only); first | assumption | exact Ne.symm (by assumption) | exact Nat.ne_of_gt (by assumption) | exact Nat.ne_of_lt (by assumption) | exact neP1 (by assumption) | exact neP2 (by assumption) | exact neP3 (by assumption) | exact neP4 (by assumption) | exact neP5 (by assumption)))
  k_with "k_all" => (assumption)
  k_with "execs cons" => (((with_reducible show wpAny _ _ _ _ _ (PySem.Shared.mk _ _ _ (_ + 1) _)); refine genToks ?_; intro tk9zz))
  k_with "eval Constant int" => ((refine constG ?_; intro t9zz tk9zz))
  k_with "ke_room" => (ktr_units)
  k_with "execs cons" => first | ((with_reducible show wpAny _ _ _ _ _ (PySem.Shared.mk _ _ _ (_ + 1) _)); refine genToks ?_; intro tk9) | (refine consQ ?_; intro q9)
  k_with "flowQ" => first | (refine flow_next ?_) | (refine flow_ret ?_)
  k_with "exec Try cons cons nil nil" => (refine wpAny_Try_except ?_)
  k_with "call ref" => first
    | ((with_reducible show wpAny _ _ (call (Value.ref 324) _) _ _ _); k_dflt (refine' useM (sops_c _) ?uB ?uF ?uX ?uN ?uT ?uk ?ud ?uu ?_; (case uB => k_asm); (case uF => k_asm); (case uX => k_asm); (case uN => k_asm); (case uT => k_asm); (case uk => exact rfl); (case ud => ktr_room); (case uu => ktr_units); k_whole; intro r6 n6 h6 tk6 P6 F6 N6; obtain ⟨d6, o6, rfl, rfl, l6, hd6⟩ := P6))
    | ((try dsimp only [List.nil_append, List.cons_append]); k_dflt (refine' useE (op d6 o6 l6) ?vB ?vF ?vX ?vN ?vT ?vk ?vd ?vu ?_; (case vB => k_asm); (case vF => k_asm); (case vX => k_asm); (case vN => (rename News _ _ _ _ => lN'; exact fun p hp => lN' p (back_front (l := led a N vs k rest) hp))); (case vT => k_asm); (case vk => exact rfl); (case vd => ktr_room); (case vu => ktr_units); k_whole; intro G5 e5 t5 x5 h5 tk5 F5 R5 U5))
  k_with "callWith ref" => (k_here; k_dflt (refine' callWith_K ?k1 ?k2 ?_; (case k1 => k_asm); (case k2 => exact hkp); k_whole))
  k_with "last subscriptTail" => ((k_dflt (refine kdt_tail (knd := PySem.intKind _ _) (by k_asm) (List.Mem.head _) (by k_asm) ?_)))
  k_with "getItem ref int" => (k_dflt (refine kdt_getItem (knd := PySem.intKind _ _) (by k_asm) (List.Mem.head _) (by k_asm) (isInt_self _ _) hf ?_))
  k_steps
  all_goals (
    rename News _ _ _ _ => kN
    exact hret _ _ _ _ _ (by assumption) (by k_asm) (kst_newsOf kN (by intro p hp; first | exact hp | exact List.mem_append_right _ hp)) (by assumption) (by assumption) (by assumption) (by assumption) ⟨rfl, rfl⟩)
end
end

section
open PySem PySem.W PyProof.Rows PySem.Calls
theorem kwHw : True := by
  k_with_none
  w_top off
  trivial
/-- the dict of a state's attributes -/
theorem kwHw_1 : True := by
  k_with_none
  k_with "cell_enter" => ((refine' enterM ?k1 ?k2 ?k3 ?k4 ?k5 ?kA ?kF ?kK ?k6 ?k7 ?k8 ?k9 ?kB ?_ ?c2 ?c3 ?c4 ?c5; (case kA => exact rfl); (case kF => exact rfl); (case kK => assumption); (case k1 => k_asm); (case k2 => k_asm); (case k3 => k_asm); (case k4 => k_asm); (case k5 => k_asm); (case k6 => k_is); (case k7 => k_is); (case k8 => first | ktr_room | k_room); (case k9 => first | exact BindsTo.of_eq rfl | exact binds_K (by k_in) rfl (by k_is) rfl rfl rfl); (case c5 => decide); (case kB => exact locs rfl); (case c2 => exact rfl); (case c3 => exact rfl); (case c4 => exact rfl); k_whole; intro mqzz gqzz Lqzz hqzz tqzz FGqzz Fqzz Nqzz Bqzz Xqzz Tqzz qkqzz ekqzz))
  k_with "storeName" => ((k_dflt (refine' storeL ?F ?N ?a ?b ?_; (case F => k_asm); (case N => k_asm); (case a => rfl); (case b => rfl); k_whole; intro mszz hszz tszz Fszz Nszz; (try k_sweep))))
  k_with "leaveF" => ((k_dflt (first | (refine' leaveF_ret ?k1 ?k2 ?_; (case k1 => k_asm); (case k2 => k_asm); k_whole) | (refine' leaveF_next ?k1 ?k2 ?_; (case k1 => k_asm); (case k2 => k_asm); k_whole)); intro kFlzz kNlzz; ground_anew kFlzz))
  k_with "ktr_room" => (((try dsimp only [depth_under_make, depth_under_kw, depth_in1, depth_deeper]); first | exact room1 (by assumption) (by decide) | exact room2 (by assumption) (by decide) | exact room0 (by assumption) | exact room3 (by assumption) (by decide) | exact room4 (by assumption) (by decide)))
  k_with "ktr_units" => (((try dsimp only [units_under_make, units_in1, units_deeper, Around.mark_units]); first | exact room1 (by assumption) (by decide) | exact room2 (by assumption) (by decide) | exact room0 (by assumption) | exact room3 (by assumption) (by decide) | exact room4 (by assumption) (by decide)))
  k_with "k_ne" => ((refine neN ?_; (try dsimp only); first | assumption | exact Ne.symm (by assumption) | exact Nat.ne_of_gt (by assumption) | exact Nat.ne_of_lt (by assumption) | exact neP1 (by assumption) | exact neP2 (by assumption) | exact neP3 (by assumption) | exact neP4 (by assumption) | exact neP5 (by assumption)))
  trivial
noncomputable def GsOk (o : Obj) : Prop := ∃ (es : List DictEntry) (n : Nat) (b9 b3 : Tok), o = dictOf es n ∧ getL (Str.ofString "delta_base") es = some (some (.int 9 b9)) ∧ getL (Str.ofString "delta_shift") es = some (some (.int 3 b3))
theorem updF_upd {d : Addr} {o o' : Obj} : ∀ {l : List (Addr × Obj)} {g : Obj → List (Addr × Obj)}, UpdF d o l g → Upd d o o' l (g o')
  | _, _, .head h => .head h
  | _, _, .tail h r => .tail h (updF_upd r)
theorem hw_mk {w : World} {h₀ h : Heap} {L : Addr} {all news : List (Addr × Obj)} {W WD ST SD NU STO GS GSD : Nat} {e0 e1 e2 e3 e4 e5 e6 e7 : Int} {u0 u1 u2 u3 u4 u5 u6 u7 : Nat} {h1 h2 : Int} {t1 t2 tm : Nat} {z cv pp ps sc : Value} {oS gO : Obj} {k : Nat}
    (kN : News h₀ L h all) (m1 : (W, instObj 476 WD) ∈ all) (m2 : (WD, dictOf [⟨e0, .str (Str.ofString "state") u0, .ref GS⟩, ⟨e1, .str (Str.ofString "stack") u1, .ref ST⟩, ⟨e2, .str (Str.ofString "zones") u2, z⟩, ⟨e3, .str (Str.ofString "cvt") u3, cv⟩, ⟨e4, .str (Str.ofString "storage") u4, .ref STO⟩, ⟨e5, .str (Str.ofString "ppem") u5, pp⟩, ⟨e6, .str (Str.ofString "point_size") u6, ps⟩, ⟨e7, .str (Str.ofString "scale") u7, sc⟩] 8) ∈ all) (m3 : (ST, instObj 425 SD) ∈ all) (m4 : (SD, sdObj h1 h2 t1 t2 8 tm NU) ∈ all) (m5 : (NU, listOf #[] k) ∈ all)
    (m6 : (STO, oS) ∈ all) (m7 : (GS, instObj 369 GSD) ∈ all) (m8 : (GSD, gO) ∈ all) (g : GsOk gO) (d : DictI oS [] w) (sub : ∀ p ∈ news, p ∈ all) (c0 : ∀ p ∈ news, p.1 < WD) (c : WD < W ∧ W < GSD ∧ GSD < GS ∧ GS < SD ∧ SD < ST ∧ ST < NU ∧ NU < STO) :
    ∃ n', News h₀ L h n' ∧ ∃ (a : WA) (N k STO GS GSD : Nat) (oS gO : Obj), Value.ref W = .ref a.W ∧ n' = led a N [] k ((STO, oS) :: (GS, instObj 369 GSD) :: (GSD, gO) :: news) ∧ (∀ p ∈ news, p.1 < a.WD) ∧ (a.WD < a.W ∧ a.W < GSD ∧ GSD < GS ∧ GS < a.SD ∧ a.SD < a.ST ∧ a.ST < N ∧ N < STO) ∧ DictI oS [] w ∧ GsOk gO ∧ a.gs = .ref GS ∧ a.sto = .ref STO ∧ a.cv = cv ∧ a.pp = pp := by
  let a : WA := ⟨W, WD, ST, SD, NU, h1, h2, t1, t2, tm, fun i => match i with | 0 => e0 | 1 => e1 | 2 => e2 | 3 => e3 | 4 => e4 | 5 => e5 | 6 => e6 | 7 => e7 | _ => 0, fun i => match i with | 0 => u0 | 1 => u1 | 2 => u2 | 3 => u3 | 4 => u4 | 5 => u5 | 6 => u6 | 7 => u7 | _ => 0, .ref GS, z, cv, .ref STO, pp, ps, sc⟩
  refine ⟨led a NU [] k ((STO, oS) :: (GS, instObj 369 GSD) :: (GSD, gO) :: news), ?_, a, NU, k, STO, GS, GSD, oS, gO, rfl, rfl, c0, c, d, g, rfl, rfl, rfl, rfl⟩
  refine kst_newsOf kN fun p hp => ?_
  simp only [led, List.mem_cons] at hp
  rcases hp with rfl | rfl | rfl | rfl | rfl | rfl | rfl | rfl | hp
  · exact m1
  · exact m2
  · exact m3
  · exact m4
  · exact m5
  · exact m6
  · exact m7
  · exact m8
  · exact sub p hp
theorem two_mk {h₀ h : Heap} {L : Addr} {all news : List (Addr × Obj)} {p q : Addr × Obj} (kN : News h₀ L h all) (m1 : p ∈ all) (m2 : q ∈ all) (sub : ∀ p ∈ news, p ∈ all) : News h₀ L h (p :: q :: news) := kst_newsOf kN fun x hx => by
  simp only [List.mem_cons] at hx
  rcases hx with rfl | rfl | hx
  · exact m1
  · exact m2
  · exact sub x hx
theorem UpdF.upd9 {d : Addr} {o o' : Obj} : ∀ {l : List (Addr × Obj)} {g : Obj → List (Addr × Obj)}, UpdF d o l g → Upd d o o' l (g o')
  | _, _, .head h => .head h
  | _, _, .tail h r => .tail h (UpdF.upd9 r)
section
variable {x y : Str} {hh : Int} {t : Tok} {v : Value}
theorem put_any : ∀ {es : List DictEntry}, es.any (·.refKey) = false → (putL x hh (.str x t) v es).any (·.refKey) = false
  | [], _ => rfl
  | e :: r, h => by
    rw [List.any_cons, Bool.or_eq_false_iff] at h
    unfold putL
    split
    · rw [List.any_cons, Bool.or_eq_false_iff]; exact h
    · rw [List.any_cons, Bool.or_eq_false_iff]; exact ⟨h.1, put_any h.2⟩
theorem put_len : ∀ {es : List DictEntry}, (putL x hh (.str x t) v es).length ≤ es.length + 1
  | [] => Nat.le_refl _
  | e :: r => by
    unfold putL
    split
    · exact Nat.le_succ _
    · exact Nat.succ_le_succ put_len
theorem get_isSome {es : List DictEntry} (h : es.any (·.refKey) = false) : (getL x es).isSome = true := by
  unfold getL
  split
  · rfl
  · rw [h]; rfl
theorem find_put_ne (hy : y ≠ x) : ∀ {es : List DictEntry}, (((putL x hh (.str x t) v es).find? (·.key.isStr y)).map (·.val)) = ((es.find? (·.key.isStr y)).map (·.val))
  | [] => by
    have : (Value.str x t).isStr y = false := by
      simp only [Value.isStr]
      exact beq_eq_false_iff_ne.mpr (Ne.symm hy)
    simp [putL, this]
  | e :: r => by
    unfold putL
    split
    · rename_i h
      have : e.key.isStr y = false := isStr_other hy e h
      simp [this]
    · rw [List.find?_cons, List.find?_cons]
      cases e.key.isStr y with
      | true => rfl
      | false => exact find_put_ne hy
theorem find_put_eq : ∀ {es : List DictEntry}, (((putL x hh (.str x t) v es).find? (·.key.isStr x)).map (·.val)) = some v
  | [] => by
    have : (Value.str x t).isStr x = true := by simp [Value.isStr]
    simp [putL, this]
  | e :: r => by
    unfold putL
    split
    · rename_i h
      simp [h]
    · rename_i h
      rw [List.find?_cons, (Bool.not_eq_true _).mp h]
      exact find_put_eq
theorem getL_map {es : List DictEntry} (h : es.any (·.refKey) = false) : getL y es = some ((es.find? (·.key.isStr y)).map (·.val)) := by
  unfold getL
  split
  · rename_i e; rw [e]; rfl
  · rename_i e; rw [e, h]; rfl
theorem get_put_ne {es : List DictEntry} (h : es.any (·.refKey) = false) (hy : y ≠ x) : getL y (putL x hh (.str x t) v es) = getL y es := by
  rw [getL_map (put_any h), getL_map h, find_put_ne hy]
theorem get_put_eq {es : List DictEntry} (h : es.any (·.refKey) = false) : getL x (putL x hh (.str x t) v es) = some (some v) := by
  rw [getL_map (put_any h), find_put_eq]
end
/-- an attribute stored in a dict of ours that is known by its readings alone -/
theorem setG {w : World} {C O D : Nat} {x : Str} {v : Value} {es : List DictEntry} {n j : Nat} {news : List (Addr × Obj)} {g : Obj → List (Addr × Obj)} {A : Around} {h₀ : Heap} {L : Addr} {m : Str → Option Value} {sh : Heap} {sg : Array GenState} {sd : Drawn} {sk : Nat} {so : OsState} {Q : Unit → Shared → Prop} {E : Value → Shared → Prop}
    (F : Fr h₀ L sh m) (X : (hd.heap_1 w.params).In h₀) (N : News h₀ L sh news) (mO : (O, instObj C D) ∈ news) (mD : (D, dictOf es n) ∈ news)
    (hs : findIn (hd.heap_1 w.params) (.ref C) "__setattr__" = some (some (.builtin "object.__setattr__"))) (hp : plainOver (hd.heap_1 w.params) C = true) (ht : takerIn (hd.heap_1 w.params) C x = some none) (hh : hasDictIn (hd.heap_1 w.params) C = true)
    (nr : es.any (·.refKey) = false) (hz : es.length + (j + 1) ≤ 900) (U : UpdF D (dictOf es n) news g)
    (ret : ∀ es' n' h' tk', es'.any (·.refKey) = false → es'.length + j ≤ 900 → (∀ y, y ≠ x → getL y es' = getL y es) → getL x es' = some (some v) → Fr h₀ L h' m → News h₀ L h' (g (dictOf es' n')) → Q () ⟨h', sg, sd, tk', so⟩) :
    wpAny (model PySem.Challenge.rw_pf0201_01.row.prog w) A (setAttr (.ref O) x v) Q E ⟨sh, sg, sd, sk, so⟩ :=
  set_dict (s := ⟨sh, sg, sd, sk, so⟩) F X N (InstAt.of_news N mO mD) rfl hs hp ht hh (get_isSome nr) rfl (UpdF.upd9 U) (Nat.le_trans put_len (by omega)) fun h' F' N' =>
    ret _ _ h' _ (put_any nr) (Nat.le_trans (Nat.add_le_add_right put_len j) (by omega)) (fun _ hy => get_put_ne nr hy) (get_put_eq nr) F' N'
theorem setIntG {w : World} {C O D : Nat} {x : Str} {z : Int} {kk : Nat} {p1 p2 p3 p4 : Pos} {es : List DictEntry} {n j : Nat} {news : List (Addr × Obj)} {g : Obj → List (Addr × Obj)} {A : Around} {cn : Str} {cs : Scope} {a : Addr} {ccd : Value} {cl : List (Str × Addr)} {h₀ : Heap} {L : Addr} {m : Str → Option Value} {sh : Heap} {sg : Array GenState} {sd : Drawn} {sk : Nat} {so : OsState} {Q : Flow → Shared → Prop} {E : Value → Shared → Prop}
    (F : Fr h₀ L sh m) (X : (hd.heap_1 w.params).In h₀) (N : News h₀ L sh news) (hm : m (Str.ofString "self") = some (.ref O)) (mO : (O, instObj C D) ∈ news) (mD : (D, dictOf es n) ∈ news)
    (hs : findIn (hd.heap_1 w.params) (.ref C) "__setattr__" = some (some (.builtin "object.__setattr__"))) (hp : plainOver (hd.heap_1 w.params) C = true) (ht : takerIn (hd.heap_1 w.params) C x = some none) (hh : hasDictIn (hd.heap_1 w.params) C = true)
    (nr : es.any (·.refKey) = false) (hz : es.length + (j + 1) ≤ 900) (U : UpdF D (dictOf es n) news g)
    (hk : cs.kind = .function) (hx : (envX cn cs L a ccd cl).kindOf (Str.ofString "self") = some .local)
    (ret : ∀ t es' n' h' tk', es'.any (·.refKey) = false → es'.length + j ≤ 900 → (∀ y, y ≠ x → getL y es' = getL y es) → getL x es' = some (some (.int z t)) → Fr h₀ L h' m → News h₀ L h' (g (dictOf es' n')) → Q .next ⟨h', sg, sd, tk', so⟩) :
    wpAny (model PySem.Challenge.rw_pf0201_01.row.prog w) A (exec (.Assign [.Attribute (.Name (Str.ofString "self") p1) x p2] (.Constant (.int z) kk p3) p4) (envX cn cs L a ccd cl)) Q E ⟨sh, sg, sd, sk, so⟩ := by
  exact plainObj_wpAny_Assign_Attribute (wpAny_Constant_int (nameX_L (s := ⟨sh, sg, sd, sk + 1, so⟩) F hm (setG F X N mO mD hs hp ht hh nr hz U fun es' n' h' tk' => ret _ es' n' h' tk') hk hx))
section
variable {w : World} {mean : ExcName → Option Value} {mg mb : Str → Option Value}
theorem kwHw_2 : True := by
  k_with_none
  k_with "cell_enter" => ((refine' enterM ?k1 ?k2 ?k3 ?k4 ?k5 ?kA ?kF ?kK ?k6 ?k7 ?k8 ?k9 ?kB ?_ ?c2 ?c3 ?c4 ?c5; (case kA => exact rfl); (case kF => exact rfl); (case kK => assumption); (case k1 => k_asm); (case k2 => k_asm); (case k3 => k_asm); (case k4 => k_asm); (case k5 => k_asm); (case k6 => k_is); (case k7 => k_is); (case k8 => first | ktr_room | k_room); (case k9 => first | exact BindsTo.of_eq rfl | exact binds_K (by k_in) rfl (by k_is) rfl rfl rfl); (case c5 => decide); (case kB => exact locs rfl); (case c2 => exact rfl); (case c3 => exact rfl); (case c4 => exact rfl); k_whole; intro mqzz gqzz Lqzz hqzz tqzz FGqzz Fqzz Nqzz Bqzz Xqzz Tqzz qkqzz ekqzz))
  k_with "storeName" => ((k_dflt (refine' storeL ?F ?N ?a ?b ?_; (case F => k_asm); (case N => k_asm); (case a => rfl); (case b => rfl); k_whole; intro mszz hszz tszz Fszz Nszz; (try k_sweep))))
  k_with "leaveF" => ((k_dflt (first | (refine' leaveF_ret ?k1 ?k2 ?_; (case k1 => k_asm); (case k2 => k_asm); k_whole) | (refine' leaveF_next ?k1 ?k2 ?_; (case k1 => k_asm); (case k2 => k_asm); k_whole)); intro kFlzz kNlzz; ground_anew kFlzz))
  k_with "ktr_room" => (((try dsimp only [depth_under_make, depth_under_kw, depth_in1, depth_deeper]); first | exact room1 (by assumption) (by decide) | exact room2 (by assumption) (by decide) | exact room0 (by assumption) | exact room3 (by assumption) (by decide) | exact room4 (by assumption) (by decide)))
  k_with "ktr_units" => (((try dsimp only [units_under_make, units_in1, units_deeper, Around.mark_units]); first | exact room1 (by assumption) (by decide) | exact room2 (by assumption) (by decide) | exact room0 (by assumption) | exact room3 (by assumption) (by decide) | exact room4 (by assumption) (by decide)))
  k_with "k_ne" => ((refine neN ?_; (try dsimp only); first | assumption | exact Ne.symm (by assumption) | exact Nat.ne_of_gt (by assumption) | exact Nat.ne_of_lt (by assumption) | exact neP1 (by assumption) | exact neP2 (by assumption) | exact neP3 (by assumption) | exact neP4 (by assumption) | exact neP5 (by assumption)))
  k_with "k_all" => (assumption)
  k_with "ke_room" => (ktr_units)
  k_with "k_room" => (((try simp only [depth_under_make, depth_under_kw, depth_in1]); ktr_room))
  k_with "execs cons" => (((with_reducible show wpAny _ _ _ _ _ (PySem.Shared.mk _ _ _ (_ + 1) _)); refine genToks ?_; intro tk9zz))
  k_with "eval Constant int" => ((refine constG ?_; intro t9zz tk9zz))
  trivial
theorem three_mk {h₀ h : Heap} {L : Addr} {all news : List (Addr × Obj)} {ST SD N : Nat} {h1 h2 : Int} {t1 t2 tm k : Nat} (kN : News h₀ L h all) (m1 : (ST, instObj 425 SD) ∈ all) (m2 : (SD, sdObj h1 h2 t1 t2 8 tm N) ∈ all) (m3 : (N, listOf #[] k) ∈ all) (sub : ∀ p ∈ news, p ∈ all) : News h₀ L h ((ST, instObj 425 SD) :: (SD, sdObj h1 h2 t1 t2 8 tm N) :: (N, listOf #[] k) :: news) := kst_newsOf kN fun x hx => by
  simp only [List.mem_cons] at hx
  rcases hx with rfl | rfl | rfl | hx
  · exact m1
  · exact m2
  · exact m3
  · exact sub x hx
theorem tup3 {M : Model} {A : Around} {env : Env} {a b c : Int} {ka kb kc kt : Nat} {p1 p2 p3 p4 : Pos} {h₀ : Heap} {L : Addr} {m : Str → Option Value} {news : List (Addr × Obj)} {sh : Heap} {sg : Array GenState} {sd : Drawn} {sk : Nat} {so : OsState} {Q E : Value → Shared → Prop} (F : Fr h₀ L sh m) (N : News h₀ L sh news)
    (ret : ∀ t1 t2 t3 D h' tk', Fr h₀ L h' m → News h₀ L h' ((D, ({ cls := .type "tuple", data := .seq #[.int a t1, .int b t2, .int c t3] } : Obj)) :: news) → (∀ p ∈ news, p.1 < D) → Q (.ref D) ⟨h', sg, sd, tk', so⟩) :
    wpAny M A (eval (.Tuple [.Constant (.int a) ka p1, .Constant (.int b) kb p2, .Constant (.int c) kc p3] kt p4) env) Q E ⟨sh, sg, sd, sk, so⟩ :=
  Tuple_ (args_cons (wpAny_Constant_int (args_cons (wpAny_Constant_int (args_cons (wpAny_Constant_int (args_nil (kup_newTuple F N (fun D h' F' N' l => ret _ _ _ D h' _ F' N' l) (by show (3 : Nat) ≤ _; rw [PySem.sizeLine_eq]; decide)))))))))
theorem named_c (t : Tok) (news : List (Addr × Obj)) :
    CbM w mean mg mb 123 20 1000 news [.str (Str.ofString "grid") t] (fun n' r => n' = news ∧ ∃ a, r = .ref a) := by
  refine CbM_mk ?_; intro dpY unY gdY cnY csY acY ccY clY ouY a0Y baY h0Y LY mY shY sgY sdY skY soY QY EY aB aF aX aN aT akY adY auY hret
  k_with_none
  k_with "cell_enter" => ((refine' enterM ?k1 ?k2 ?k3 ?k4 ?k5 ?kA ?kF ?kK ?k6 ?k7 ?k8 ?k9 ?kB ?_ ?c2 ?c3 ?c4 ?c5; (case kA => exact rfl); (case kF => exact rfl); (case kK => assumption); (case k1 => k_asm); (case k2 => k_asm); (case k3 => k_asm); (case k4 => k_asm); (case k5 => k_asm); (case k6 => k_is); (case k7 => k_is); (case k8 => first | ktr_room | k_room); (case k9 => first | exact BindsTo.of_eq rfl | exact binds_K (by k_in) rfl (by k_is) rfl rfl rfl); (case c5 => decide); (case kB => exact locs rfl); (case c2 => exact rfl); (case c3 => exact rfl); (case c4 => exact rfl); k_whole; intro mqzz gqzz Lqzz hqzz tqzz FGqzz Fqzz Nqzz Bqzz Xqzz Tqzz qkqzz ekqzz))
  k_with "storeName" => ((k_dflt (refine' storeL ?F ?N ?a ?b ?_; (case F => k_asm); (case N => k_asm); (case a => rfl); (case b => rfl); k_whole; intro mszz hszz tszz Fszz Nszz; (try k_sweep))))
  k_with "leaveF" => ((k_dflt (first | (refine' leaveF_ret ?k1 ?k2 ?_; (case k1 => k_asm); (case k2 => k_asm); k_whole) | (refine' leaveF_next ?k1 ?k2 ?_; (case k1 => k_asm); (case k2 => k_asm); k_whole)); intro kFlzz kNlzz; ground_anew kFlzz))
  k_with "ktr_room" => (((try dsimp only [depth_under_make, depth_under_kw, depth_in1, depth_deeper]); first | exact room1 (by assumption) (by decide) | exact room2 (by assumption) (by decide) | exact room0 (by assumption) | exact room3 (by assumption) (by decide) | exact room4 (by assumption) (by decide)))
  k_with "ktr_units" => (((try dsimp only [units_under_make, units_in1, units_deeper, Around.mark_units]); first | exact room1 (by assumption) (by decide) | exact room2 (by assumption) (by decide) | exact room0 (by assumption) | exact room3 (by assumption) (by decide) | exact room4 (by assumption) (by decide)))
  k_with "k_ne" => ((refine neN ?_; (try dsimp only); first | assumption | exact Ne.symm (by assumption) | exact Nat.ne_of_gt (by assumption) | exact Nat.ne_of_lt (by assumption) | exact neP1 (by assumption) | exact neP2 (by assumption) | exact neP3 (by assumption) | exact neP4 (by assumption) | exact neP5 (by assumption)))
  k_with "k_all" => (assumption)
  k_with "ke_room" => (ktr_units)
  k_with "k_room" => (((try simp only [depth_under_make, depth_under_kw, depth_in1]); ktr_room))
  k_with "execs cons" => (((with_reducible show wpAny _ _ _ _ _ (PySem.Shared.mk _ _ _ (_ + 1) _)); refine genToks ?_; intro tk9zz))
  k_with "eval Constant int" => ((refine constG ?_; intro t9zz tk9zz))
  k_with "eval Tuple" => first
    | ((with_reducible show wpAny _ _ (eval (PySem.Expr.Tuple [PySem.Expr.Constant (Const.int 64) _ _, PySem.Expr.Constant (Const.int 0) _ _, PySem.Expr.Constant (Const.int 32) _ _] _ _) _) _ _ _); (k_dflt (refine' tup3 ?F ?N ?_; (case F => k_asm); (case N => k_asm); k_whole)); intro t9 u9 v9 D' h' tk9 F' N' l1; (try k_lt l1); (try k_sweep))
    | ((k_dflt (refine' tup3 ?F ?N ?_; (case F => k_asm); (case N => k_asm); k_whole)); intro t9 u9 v9 D' h' tk9 F' N' l1; clear l1; (have N9 := kst_newsOf N' (fun p hp => List.Mem.tail _ hp)); clear N'; (try k_sweep))
  k_with "eval Dict" => (k_here; k_dflt (refine' kdn_str ?q ?F ?N ?b ?a ?l ?e ?n ?_; (case q => rfl); (case F => k_asm); (case N => first | k_asm | exact News.nil); (case b => exact Top.nolimit (by k_asm)); (case a => rfl); (case l => rfl); (case e => exact List.cons_ne_nil _ _); (case n => exact Nat.le_of_ble_eq_true rfl)); intro d' h' o' F' N' l1 lo' hd'; (try k_lt l1))
  k_dflt cell_enter
  k_steps
  all_goals (
    rename News _ _ _ _ => kN
    exact hret _ news _ _ (by k_asm) (kst_newsOf kN (by intro p hp; repeat' (first | exact hp | apply List.Mem.tail))) ⟨rfl, _, rfl⟩)
theorem gs_c (news : List (Addr × Obj)) :
    CbM w mean mg mb 369 50 2500 news [] (fun n' r => ∃ (GS GSD : Nat) (gO : Obj), r = .ref GS ∧ n' = (GS, instObj 369 GSD) :: (GSD, gO) :: news ∧ (∀ p ∈ news, p.1 < GSD) ∧ GSD < GS ∧ GsOk gO) := by
  refine CbM_mk ?_; intro dpY unY gdY cnY csY acY ccY clY ouY a0Y baY h0Y LY mY shY sgY sdY skY soY QY EY aB aF aX aN aT akY adY auY hret
  k_with_none
  k_with "cell_enter" => ((refine' enterM ?k1 ?k2 ?k3 ?k4 ?k5 ?kA ?kF ?kK ?k6 ?k7 ?k8 ?k9 ?kB ?_ ?c2 ?c3 ?c4 ?c5; (case kA => exact rfl); (case kF => exact rfl); (case kK => assumption); (case k1 => k_asm); (case k2 => k_asm); (case k3 => k_asm); (case k4 => k_asm); (case k5 => k_asm); (case k6 => k_is); (case k7 => k_is); (case k8 => first | ktr_room | k_room); (case k9 => first | exact BindsTo.of_eq rfl | exact binds_K (by k_in) rfl (by k_is) rfl rfl rfl); (case c5 => decide); (case kB => exact locs rfl); (case c2 => exact rfl); (case c3 => exact rfl); (case c4 => exact rfl); k_whole; intro mqzz gqzz Lqzz hqzz tqzz FGqzz Fqzz Nqzz Bqzz Xqzz Tqzz qkqzz ekqzz))
  k_with "storeName" => ((k_dflt (refine' storeL ?F ?N ?a ?b ?_; (case F => k_asm); (case N => k_asm); (case a => rfl); (case b => rfl); k_whole; intro mszz hszz tszz Fszz Nszz; (try k_sweep))))
  k_with "leaveF" => ((k_dflt (first | (refine' leaveF_ret ?k1 ?k2 ?_; (case k1 => k_asm); (case k2 => k_asm); k_whole) | (refine' leaveF_next ?k1 ?k2 ?_; (case k1 => k_asm); (case k2 => k_asm); k_whole)); intro kFlzz kNlzz; ground_anew kFlzz))
  k_with "ktr_room" => (((try dsimp only [depth_under_make, depth_under_kw, depth_in1, depth_deeper]); first | exact room1 (by assumption) (by decide) | exact room2 (by assumption) (by decide) | exact room0 (by assumption) | exact room3 (by assumption) (by decide) | exact room4 (by assumption) (by decide)))
  k_with "ktr_units" => (((try dsimp only [units_under_make, units_in1, units_deeper, Around.mark_units]); first | exact room1 (by assumption) (by decide) | exact room2 (by assumption) (by decide) | exact room0 (by assumption) | exact room3 (by assumption) (by decide) | exact room4 (by assumption) (by decide)))
  k_with "k_ne" => ((refine neN ?_; (try dsimp only); first | assumption | exact Ne.symm (by assumption) | exact Nat.ne_of_gt (by assumption) | exact Nat.ne_of_lt (by assumption) | exact neP1 (by assumption) | exact neP2 (by assumption) | exact neP3 (by assumption) | exact neP4 (by assumption) | exact neP5 (by assumption)))
  k_with "k_all" => (assumption)
  k_with "ke_room" => (ktr_units)
  k_with "k_room" => (((try simp only [depth_under_make, depth_under_kw, depth_in1]); ktr_room))
  k_with "execs cons" => (((with_reducible show wpAny _ _ _ _ _ (PySem.Shared.mk _ _ _ (_ + 1) _)); refine genToks ?_; intro tk9zz))
  k_with "eval Constant int" => ((refine constG ?_; intro t9zz tk9zz))
  k_dflt (refine' call_cls ?k1 ?k2 ?k3 ?k4 ?k5 ?k6 ?_; (case k1 => k_asm); (case k2 => k_asm); (case k3 => k_asm); (case k4 => k_is); (case k5 => k_is); (case k6 => k_is); k_whole; intro x1 d1 h1 F1 N1 l1 l2; have l0 := l1; (try k_lt l1); (try k_lt2 l2); (try k_sweep))
  k_dflt cell_enter
  k_with "call ref" => ((with_reducible show wpAny _ _ (call (Value.ref 123) _) _ _ _); (k_dflt (refine' useM (named_c _ _) ?uB ?uF ?uX ?uN ?uT ?uk ?ud ?uu ?_; (case uB => k_asm); (case uF => k_asm); (case uX => k_asm); (case uN => k_asm); (case uT => k_asm); (case uk => exact rfl); (case ud => first | ktr_room | (simp only [depth_under_make]; omega)); (case uu => first | ktr_units | (simp only [units_under_make]; omega)); k_whole; intro r6 n6 h6 tk6 P6 F6 N6; obtain ⟨rfl, a6, rfl⟩ := P6)))
  k_with "newTuple" => ((k_dflt (refine' kup_newTuple ?F ?N ?_ ?z; (case F => k_asm); (case N => k_asm); (case z => kmk_size))); intro D' h' F' N' l1; clear l1; (have N9 := kst_newsOf N' (fun p hp => List.Mem.tail _ hp)); clear N'; (try k_sweep))
  k_with "eval Dict" => (k_here; k_dflt (refine' kdn_str ?q ?F ?N ?b ?a ?l ?e ?n ?_; (case q => rfl); (case F => k_asm); (case N => first | k_asm | exact News.nil); (case b => exact Top.nolimit (by k_asm)); (case a => rfl); (case l => rfl); (case e => exact List.cons_ne_nil _ _); (case n => exact Nat.le_of_ble_eq_true rfl)); intro d' h' o' F' N' l1 lo' hd'; (try k_lt l1))
  k_with "setAttr ref" => ((k_dflt (refine' setG ?zF ?zX ?zN ?zO ?zD ?zs ?zp ?zt ?zh ?zr ?zz ?zU ?_; (case zF => k_asm); (case zX => k_asm); (case zN => k_asm); (case zO => k_mem); (case zD => k_mem); (case zs => k_is); (case zp => k_is); (case zt => k_is); (case zh => k_is); (case zr => first | assumption | exact rfl); (case zz => first | assumption | exact (show ([] : List DictEntry).length + (30 + 1) ≤ 900 by decide)); (case zU => k_updF); k_whole; intro e9 n9 h9 tk9 r9 z9 g9 v9 F9 N9; (try dsimp only at N9); (try k_sweep))))
  k_with "exec Assign" => ((with_reducible show wpAny _ _ (exec (Stmt.Assign [Expr.Attribute _ _ _] (Expr.Constant (Const.int _) _ _) _) _) _ _ _); k_dflt (refine' setIntG ?zF ?zX ?zN ?zm ?zO ?zD ?zs ?zp ?zt ?zh ?zr ?zz ?zU ?zk ?zx ?_; (case zF => k_asm); (case zX => k_asm); (case zN => k_asm); (case zm => exact rfl); (case zO => k_mem); (case zD => k_mem); (case zs => k_is); (case zp => k_is); (case zt => k_is); (case zh => k_is); (case zr => first | assumption | exact rfl); (case zz => first | assumption | exact (show ([] : List DictEntry).length + (30 + 1) ≤ 900 by decide)); (case zU => k_updF); (case zk => exact rfl); (case zx => exact rfl); k_whole; intro t9 e9 n9 h9 tk9 r9 z9 g9 v9 F9 N9; (try dsimp only at N9); (try k_sweep)))
  k_steps
  all_goals (
    rename News _ _ _ _ => kN
    exact hret _ ((x1, instObj 369 d1) :: (d1, _) :: news) _ _ (by k_asm) (two_mk kN (by k_mem) (by k_mem) (by intro p hp; first | ((repeat' (first | exact hp | apply List.Mem.tail)); done) | simp [hp])) ⟨x1, d1, _, rfl, rfl, l0, by assumption, ⟨_, _, _, _, rfl, (by repeat' (first | assumption | (refine Eq.trans ((by assumption : ∀ y, y ≠ _ → getL y _ = getL y _) _ (by decide)) ?_))), (by repeat' (first | assumption | (refine Eq.trans ((by assumption : ∀ y, y ≠ _ → getL y _ = getL y _) _ (by decide)) ?_)))⟩⟩)
theorem hs_c (t8 : Tok) (news : List (Addr × Obj)) :
    CbM w mean mg mb 425 50 2500 news [.int 8 t8] (fun n' r => ∃ (ST SD N : Nat) (h1 h2 : Int) (t1 t2 tm k : Nat), r = .ref ST ∧ n' = (ST, instObj 425 SD) :: (SD, sdObj h1 h2 t1 t2 8 tm N) :: (N, listOf #[] k) :: news ∧ (∀ p ∈ news, p.1 < SD) ∧ SD < ST ∧ ST < N) := by
  refine CbM_mk ?_; intro dpY unY gdY cnY csY acY ccY clY ouY a0Y baY h0Y LY mY shY sgY sdY skY soY QY EY aB aF aX aN aT akY adY auY hret
  k_with_none
  k_with "cell_enter" => ((refine' enterM ?k1 ?k2 ?k3 ?k4 ?k5 ?kA ?kF ?kK ?k6 ?k7 ?k8 ?k9 ?kB ?_ ?c2 ?c3 ?c4 ?c5; (case kA => exact rfl); (case kF => exact rfl); (case kK => assumption); (case k1 => k_asm); (case k2 => k_asm); (case k3 => k_asm); (case k4 => k_asm); (case k5 => k_asm); (case k6 => k_is); (case k7 => k_is); (case k8 => first | ktr_room | k_room); (case k9 => first | exact BindsTo.of_eq rfl | exact binds_K (by k_in) rfl (by k_is) rfl rfl rfl); (case c5 => decide); (case kB => exact locs rfl); (case c2 => exact rfl); (case c3 => exact rfl); (case c4 => exact rfl); k_whole; intro mqzz gqzz Lqzz hqzz tqzz FGqzz Fqzz Nqzz Bqzz Xqzz Tqzz qkqzz ekqzz))
  k_with "storeName" => ((k_dflt (refine' storeL ?F ?N ?a ?b ?_; (case F => k_asm); (case N => k_asm); (case a => rfl); (case b => rfl); k_whole; intro mszz hszz tszz Fszz Nszz; (try k_sweep))))
  k_with "leaveF" => ((k_dflt (first | (refine' leaveF_ret ?k1 ?k2 ?_; (case k1 => k_asm); (case k2 => k_asm); k_whole) | (refine' leaveF_next ?k1 ?k2 ?_; (case k1 => k_asm); (case k2 => k_asm); k_whole)); intro kFlzz kNlzz; ground_anew kFlzz))
  k_with "ktr_room" => (((try dsimp only [depth_under_make, depth_under_kw, depth_in1, depth_deeper]); first | exact room1 (by assumption) (by decide) | exact room2 (by assumption) (by decide) | exact room0 (by assumption) | exact room3 (by assumption) (by decide) | exact room4 (by assumption) (by decide)))
  k_with "ktr_units" => (((try dsimp only [units_under_make, units_in1, units_deeper, Around.mark_units]); first | exact room1 (by assumption) (by decide) | exact room2 (by assumption) (by decide) | exact room0 (by assumption) | exact room3 (by assumption) (by decide) | exact room4 (by assumption) (by decide)))
  k_with "k_ne" => ((refine neN ?_; (try dsimp only); first | assumption | exact Ne.symm (by assumption) | exact Nat.ne_of_gt (by assumption) | exact Nat.ne_of_lt (by assumption) | exact neP1 (by assumption) | exact neP2 (by assumption) | exact neP3 (by assumption) | exact neP4 (by assumption) | exact neP5 (by assumption)))
  k_with "k_all" => (assumption)
  k_with "ke_room" => (ktr_units)
  k_with "k_room" => (((try simp only [depth_under_make, depth_under_kw, depth_in1]); ktr_room))
  k_with "execs cons" => (((with_reducible show wpAny _ _ _ _ _ (PySem.Shared.mk _ _ _ (_ + 1) _)); refine genToks ?_; intro tk9zz))
  k_with "eval Constant int" => ((refine constG ?_; intro t9zz tk9zz))
  k_dflt (refine' call_cls ?k1 ?k2 ?k3 ?k4 ?k5 ?k6 ?_; (case k1 => k_asm); (case k2 => k_asm); (case k3 => k_asm); (case k4 => k_is); (case k5 => k_is); (case k6 => k_is); k_whole; intro x1 d1 h1 F1 N1 l1 l2; have l0 := l1; (try k_lt l1); (try k_lt2 l2); (try k_sweep))
  k_dflt cell_enter
  k_steps
  all_goals (
    rename News _ _ _ _ => kN
    refine' hret _ _ _ _ (by k_asm) (three_mk kN ?m1 ?m2 ?m3 ?m4) ⟨_, _, _, _, _, _, _, _, _, rfl, rfl, l0, ?o1, ?o2⟩; (case m1 => k_mem); (case m2 => k_mem); (case m3 => k_mem); (case m4 => (intro p hp; simp [hp])); (case o1 => assumption); (case o2 => omega))
theorem useGs {news : List (Addr × Obj)} {dp un : Nat} {gd : Option (List Code)} {cn : Str} {cs : Scope} {a : Addr} {ccd : Value} {cl : List (Str × Addr)} {outer : List Env} {A₀ : Around} {base h₀ : Heap} {L : Addr} {m : Str → Option Value} {s : Shared} {Q E : Value → Shared → Prop} (B : Below A₀ base outer h₀) (F : Fr h₀ L s.heap m) (X : (hd.heap_1 w.params).In h₀) (N0 : News h₀ L s.heap news) (T : Top hd.view_39 (looseW hd.view_39 [Str.ofString "HintWork"]) mean mg mb h₀)
    (hk : cs.kind = .function) (hd' : dp + 50 < recursionLimit) (hu : un + 2500 < cLine)
    (ret : ∀ (GS GSD : Nat) (gO : Obj) (h' : Heap) (tk' : Nat), (∀ p ∈ news, p.1 < GSD) → GSD < GS → GsOk gO → Fr h₀ L h' m → News h₀ L h' ((GS, instObj 369 GSD) :: (GSD, gO) :: news) → Q (.ref GS) { s with heap := h', toks := tk' }) :
    wpAny (model PySem.Challenge.rw_pf0201_01.row.prog w) (ktrTop dp un gd cn cs L a ccd cl outer) (call (.ref 369) []) Q E s :=
  useM (gs_c news) B F X N0 T hk hd' hu fun r n' h' tk' P' F' N' => by
    obtain ⟨GS, GSD, gO, rfl, rfl, l1, l2, g⟩ := P'
    exact ret GS GSD gO h' tk' l1 l2 g F' N'
theorem useHs {t8 : Tok} {news : List (Addr × Obj)} {dp un : Nat} {gd : Option (List Code)} {cn : Str} {cs : Scope} {a : Addr} {ccd : Value} {cl : List (Str × Addr)} {outer : List Env} {A₀ : Around} {base h₀ : Heap} {L : Addr} {m : Str → Option Value} {s : Shared} {Q E : Value → Shared → Prop} (B : Below A₀ base outer h₀) (F : Fr h₀ L s.heap m) (X : (hd.heap_1 w.params).In h₀) (N0 : News h₀ L s.heap news) (T : Top hd.view_39 (looseW hd.view_39 [Str.ofString "HintWork"]) mean mg mb h₀)
    (hk : cs.kind = .function) (hd' : dp + 50 < recursionLimit) (hu : un + 2500 < cLine)
    (ret : ∀ (ST SD N : Nat) (h1 h2 : Int) (t1 t2 tm k : Nat) (h' : Heap) (tk' : Nat), (∀ p ∈ news, p.1 < SD) → SD < ST → ST < N → Fr h₀ L h' m → News h₀ L h' ((ST, instObj 425 SD) :: (SD, sdObj h1 h2 t1 t2 8 tm N) :: (N, listOf #[] k) :: news) → Q (.ref ST) { s with heap := h', toks := tk' }) :
    wpAny (model PySem.Challenge.rw_pf0201_01.row.prog w) (ktrTop dp un gd cn cs L a ccd cl outer) (call (.ref 425) [.int 8 t8]) Q E s :=
  useM (hs_c t8 news) B F X N0 T hk hd' hu fun r n' h' tk' P' F' N' => by
    obtain ⟨ST, SD, N, h1, h2, t1, t2, tm, k, rfl, rfl, l1, l2, l3⟩ := P'
    exact ret ST SD N h1 h2 t1 t2 tm k h' tk' l1 l2 l3 F' N'
theorem letM {g h : Heap} {L : Addr} {m : Str → Option Value} {G : Prop} (F : Fr g L h m) (K : let mm : Str → Option Value := m; Fr g L h mm → G) : G := K F
theorem hw_c (Z CV : Nat) (t8 : Tok)  (news : List (Addr × Obj)) :
    CbM w mean mg mb 476 100 5000 news [.ref Z, .ref CV, .int 8 t8] (fun n' r => ∃ (a : WA) (N k STO GS GSD : Nat) (oS gO : Obj), r = .ref a.W ∧ n' = led a N [] k ((STO, oS) :: (GS, instObj 369 GSD) :: (GSD, gO) :: news) ∧ (∀ p ∈ news, p.1 < a.WD) ∧ (a.WD < a.W ∧ a.W < GSD ∧ GSD < GS ∧ GS < a.SD ∧ a.SD < a.ST ∧ a.ST < N ∧ N < STO) ∧ DictI oS [] w ∧ GsOk gO ∧ a.gs = .ref GS ∧ a.sto = .ref STO ∧ a.cv = .ref CV ∧ True) := by
  refine CbM_mk ?_; intro dpY unY gdY cnY csY acY ccY clY ouY a0Y baY h0Y LY mY shY sgY sdY skY soY QY EY aB aF aX aN aT akY adY auY hret
  k_with_none
  k_with "cell_enter" => ((refine' enterM ?k1 ?k2 ?k3 ?k4 ?k5 ?kA ?kF ?kK ?k6 ?k7 ?k8 ?k9 ?kB ?_ ?c2 ?c3 ?c4 ?c5; (case kA => exact rfl); (case kF => exact rfl); (case kK => assumption); (case k1 => k_asm); (case k2 => k_asm); (case k3 => k_asm); (case k4 => k_asm); (case k5 => k_asm); (case k6 => k_is); (case k7 => k_is); (case k8 => first | ktr_room | k_room); (case k9 => first | exact BindsTo.of_eq rfl | exact binds_K (by k_in) rfl (by k_is) rfl rfl rfl); (case c5 => decide); (case kB => exact locs rfl); (case c2 => exact rfl); (case c3 => exact rfl); (case c4 => exact rfl); k_whole; intro mqzz gqzz Lqzz hqzz tqzz FGqzz Fqzz Nqzz Bqzz Xqzz Tqzz qkqzz ekqzz))
  k_with "storeName" => ((k_dflt (refine' storeL ?F ?N ?a ?b ?_; (case F => k_asm); (case N => k_asm); (case a => rfl); (case b => rfl); k_whole; intro mszz hszz tszz Fszz Nszz; (try k_sweep))))
  k_with "leaveF" => ((k_dflt (first | (refine' leaveF_ret ?k1 ?k2 ?_; (case k1 => k_asm); (case k2 => k_asm); k_whole) | (refine' leaveF_next ?k1 ?k2 ?_; (case k1 => k_asm); (case k2 => k_asm); k_whole)); intro kFlzz kNlzz; ground_anew kFlzz))
  k_with "ktr_room" => (((try dsimp only [depth_under_make, depth_under_kw, depth_in1, depth_deeper]); first | exact room1 (by assumption) (by decide) | exact room2 (by assumption) (by decide) | exact room0 (by assumption) | exact room3 (by assumption) (by decide) | exact room4 (by assumption) (by decide)))
  k_with "ktr_units" => (((try dsimp only [units_under_make, units_in1, units_deeper, Around.mark_units]); first | exact room1 (by assumption) (by decide) | exact room2 (by assumption) (by decide) | exact room0 (by assumption) | exact room3 (by assumption) (by decide) | exact room4 (by assumption) (by decide)))
  k_with "k_ne" => ((refine neN ?_; (try dsimp only); first | assumption | exact Ne.symm (by assumption) | exact Nat.ne_of_gt (by assumption) | exact Nat.ne_of_lt (by assumption) | exact neP1 (by assumption) | exact neP2 (by assumption) | exact neP3 (by assumption) | exact neP4 (by assumption) | exact neP5 (by assumption)))
  k_with "k_all" => (assumption)
  k_with "ke_room" => (ktr_units)
  k_with "k_room" => (((try simp only [depth_under_make, depth_under_kw, depth_in1]); ktr_room))
  k_with "execs cons" => (((with_reducible show wpAny _ _ _ _ _ (PySem.Shared.mk _ _ _ (_ + 1) _)); refine genToks ?_; intro tk9zz))
  k_with "eval Constant int" => ((refine constG ?_; intro t9zz tk9zz))
  k_dflt (refine' call_cls ?k1 ?k2 ?k3 ?k4 ?k5 ?k6 ?_; (case k1 => k_asm); (case k2 => k_asm); (case k3 => k_asm); (case k4 => k_is); (case k5 => k_is); (case k6 => k_is); k_whole; intro x1 d1 h1 F1 N1 l1 l2; have l0 := l1; (try k_lt l1); (try k_lt2 l2); (try k_sweep))
  k_dflt (refine' code_def ?k1 ?k2 ?k3 ?k4 ?k5 ?kA ?kF ?kK ?k6 ?k7 ?k8 ?k9 ?kB ?_ ?c2 ?c3 ?c4 ?c5; (case kA => exact rfl); (case kF => exact rfl); (case kK => assumption); (case k1 => k_asm); (case k2 => k_asm); (case k3 => k_asm); (case k4 => k_asm); (case k5 => k_asm); (case k6 => k_is); (case k7 => k_is); (case k8 => k_room); (case k9 => first | exact BindsTo.of_eq rfl | exact binds_K (by k_in) rfl (by k_is) rfl rfl rfl); (case c5 => decide); (case kB => exact locs rfl); (case c2 => exact rfl); (case c3 => exact rfl); (case c4 => exact rfl); k_whole; intro g' L' h' FG' F' N' B' X' T'; refine letM F' ?_; clear F'; intro mq F'; (try dsimp only); (try k_fold))
  k_with "call ref" => first
    | ((with_reducible show wpAny _ _ (call (Value.ref 369) _) _ _ _); k_dflt (refine' useGs ?uB ?uF ?uX ?uN ?uT ?uk ?ud ?uu ?_; (case uB => k_asm); (case uF => k_asm); (case uX => k_asm); (case uN => k_asm); (case uT => k_asm); (case uk => exact rfl); (case ud => first | ktr_room | (simp only [depth_under_make]; omega)); (case uu => first | ktr_units | (simp only [units_under_make]; omega)); k_whole; intro GS GSD gO h6 tk6 lG lGS gok F6 N6; k_lt lG))
    | ((with_reducible show wpAny _ _ (call (Value.ref 425) _) _ _ _); k_dflt (refine' useHs ?uB ?uF ?uX ?uN ?uT ?uk ?ud ?uu ?_; (case uB => k_asm); (case uF => k_asm); (case uX => k_asm); (case uN => k_asm); (case uT => k_asm); (case uk => exact rfl); (case ud => first | ktr_room | (simp only [depth_under_make]; omega)); (case uu => first | ktr_units | (simp only [units_under_make]; omega)); k_whole; intro ST SD NU e1 e2 u1 u2 um kk h7 tk7 lS lST lNU F7 N7; k_lt lS))
  k_steps
  all_goals (
    rename News _ _ _ _ => kN
    rename Obj.IsDictOf (PySem.intKind _ _) _ _ => kD
    obtain ⟨n9, N9, P9⟩ := hw_mk (W := x1) kN (by k_mem) (by k_mem) (by k_mem) (by k_mem) (by k_mem) (by k_mem) (by k_mem) (by k_mem) gok kD (by intro p hp; first | ((repeat' (first | exact hp | apply List.Mem.tail)); done) | simp [hp]) l0 (by and_intros <;> omega)
    obtain ⟨a, N, k, STO, GS, GSD, oS, gO, q1, q2, q3, q4, q5, q6, q7, q8, q9, q0⟩ := P9
    exact hret _ n9 _ _ (by k_asm) N9 ⟨a, N, k, STO, GS, GSD, oS, gO, q1, q2, q3, q4, q5, q6, q7, q8, q9, by first | trivial | exact q0⟩)
theorem hw4_c (Z CV : Nat) (t8 : Tok) (p : Int) (tp : Tok) (news : List (Addr × Obj)) :
    CbM w mean mg mb 476 100 5000 news [.ref Z, .ref CV, .int 8 t8, .int p tp] (fun n' r => ∃ (a : WA) (N k STO GS GSD : Nat) (oS gO : Obj), r = .ref a.W ∧ n' = led a N [] k ((STO, oS) :: (GS, instObj 369 GSD) :: (GSD, gO) :: news) ∧ (∀ p ∈ news, p.1 < a.WD) ∧ (a.WD < a.W ∧ a.W < GSD ∧ GSD < GS ∧ GS < a.SD ∧ a.SD < a.ST ∧ a.ST < N ∧ N < STO) ∧ DictI oS [] w ∧ GsOk gO ∧ a.gs = .ref GS ∧ a.sto = .ref STO ∧ a.cv = .ref CV ∧ a.pp = .int p tp) := by
  refine CbM_mk ?_; intro dpY unY gdY cnY csY acY ccY clY ouY a0Y baY h0Y LY mY shY sgY sdY skY soY QY EY aB aF aX aN aT akY adY auY hret
  k_with_none
  k_with "cell_enter" => ((refine' enterM ?k1 ?k2 ?k3 ?k4 ?k5 ?kA ?kF ?kK ?k6 ?k7 ?k8 ?k9 ?kB ?_ ?c2 ?c3 ?c4 ?c5; (case kA => exact rfl); (case kF => exact rfl); (case kK => assumption); (case k1 => k_asm); (case k2 => k_asm); (case k3 => k_asm); (case k4 => k_asm); (case k5 => k_asm); (case k6 => k_is); (case k7 => k_is); (case k8 => first | ktr_room | k_room); (case k9 => first | exact BindsTo.of_eq rfl | exact binds_K (by k_in) rfl (by k_is) rfl rfl rfl); (case c5 => decide); (case kB => exact locs rfl); (case c2 => exact rfl); (case c3 => exact rfl); (case c4 => exact rfl); k_whole; intro mqzz gqzz Lqzz hqzz tqzz FGqzz Fqzz Nqzz Bqzz Xqzz Tqzz qkqzz ekqzz))
  k_with "storeName" => ((k_dflt (refine' storeL ?F ?N ?a ?b ?_; (case F => k_asm); (case N => k_asm); (case a => rfl); (case b => rfl); k_whole; intro mszz hszz tszz Fszz Nszz; (try k_sweep))))
  k_with "leaveF" => ((k_dflt (first | (refine' leaveF_ret ?k1 ?k2 ?_; (case k1 => k_asm); (case k2 => k_asm); k_whole) | (refine' leaveF_next ?k1 ?k2 ?_; (case k1 => k_asm); (case k2 => k_asm); k_whole)); intro kFlzz kNlzz; ground_anew kFlzz))
  k_with "ktr_room" => (((try dsimp only [depth_under_make, depth_under_kw, depth_in1, depth_deeper]); first | exact room1 (by assumption) (by decide) | exact room2 (by assumption) (by decide) | exact room0 (by assumption) | exact room3 (by assumption) (by decide) | exact room4 (by assumption) (by decide)))
  k_with "ktr_units" => (((try dsimp only [units_under_make, units_in1, units_deeper, Around.mark_units]); first | exact room1 (by assumption) (by decide) | exact room2 (by assumption) (by decide) | exact room0 (by assumption) | exact room3 (by assumption) (by decide) | exact room4 (by assumption) (by decide)))
  k_with "k_ne" => ((refine neN ?_; (try dsimp only); first | assumption | exact Ne.symm (by assumption) | exact Nat.ne_of_gt (by assumption) | exact Nat.ne_of_lt (by assumption) | exact neP1 (by assumption) | exact neP2 (by assumption) | exact neP3 (by assumption) | exact neP4 (by assumption) | exact neP5 (by assumption)))
  k_with "k_all" => (assumption)
  k_with "ke_room" => (ktr_units)
  k_with "k_room" => (((try simp only [depth_under_make, depth_under_kw, depth_in1]); ktr_room))
  k_with "execs cons" => (((with_reducible show wpAny _ _ _ _ _ (PySem.Shared.mk _ _ _ (_ + 1) _)); refine genToks ?_; intro tk9zz))
  k_with "eval Constant int" => ((refine constG ?_; intro t9zz tk9zz))
  k_dflt (refine' call_cls ?k1 ?k2 ?k3 ?k4 ?k5 ?k6 ?_; (case k1 => k_asm); (case k2 => k_asm); (case k3 => k_asm); (case k4 => k_is); (case k5 => k_is); (case k6 => k_is); k_whole; intro x1 d1 h1 F1 N1 l1 l2; have l0 := l1; (try k_lt l1); (try k_lt2 l2); (try k_sweep))
  k_dflt (refine' code_def ?k1 ?k2 ?k3 ?k4 ?k5 ?kA ?kF ?kK ?k6 ?k7 ?k8 ?k9 ?kB ?_ ?c2 ?c3 ?c4 ?c5; (case kA => exact rfl); (case kF => exact rfl); (case kK => assumption); (case k1 => k_asm); (case k2 => k_asm); (case k3 => k_asm); (case k4 => k_asm); (case k5 => k_asm); (case k6 => k_is); (case k7 => k_is); (case k8 => k_room); (case k9 => first | exact BindsTo.of_eq rfl | exact binds_K (by k_in) rfl (by k_is) rfl rfl rfl); (case c5 => decide); (case kB => exact locs rfl); (case c2 => exact rfl); (case c3 => exact rfl); (case c4 => exact rfl); k_whole; intro g' L' h' FG' F' N' B' X' T'; refine letM F' ?_; clear F'; intro mq F'; (try dsimp only); (try k_fold))
  k_with "call ref" => first
    | ((with_reducible show wpAny _ _ (call (Value.ref 369) _) _ _ _); k_dflt (refine' useGs ?uB ?uF ?uX ?uN ?uT ?uk ?ud ?uu ?_; (case uB => k_asm); (case uF => k_asm); (case uX => k_asm); (case uN => k_asm); (case uT => k_asm); (case uk => exact rfl); (case ud => first | ktr_room | (simp only [depth_under_make]; omega)); (case uu => first | ktr_units | (simp only [units_under_make]; omega)); k_whole; intro GS GSD gO h6 tk6 lG lGS gok F6 N6; k_lt lG))
    | ((with_reducible show wpAny _ _ (call (Value.ref 425) _) _ _ _); k_dflt (refine' useHs ?uB ?uF ?uX ?uN ?uT ?uk ?ud ?uu ?_; (case uB => k_asm); (case uF => k_asm); (case uX => k_asm); (case uN => k_asm); (case uT => k_asm); (case uk => exact rfl); (case ud => first | ktr_room | (simp only [depth_under_make]; omega)); (case uu => first | ktr_units | (simp only [units_under_make]; omega)); k_whole; intro ST SD NU e1 e2 u1 u2 um kk h7 tk7 lS lST lNU F7 N7; k_lt lS))
  k_steps
  all_goals (
    rename News _ _ _ _ => kN
    rename Obj.IsDictOf (PySem.intKind _ _) _ _ => kD
    obtain ⟨n9, N9, P9⟩ := hw_mk (W := x1) kN (by k_mem) (by k_mem) (by k_mem) (by k_mem) (by k_mem) (by k_mem) (by k_mem) (by k_mem) gok kD (by intro p hp; first | ((repeat' (first | exact hp | apply List.Mem.tail)); done) | simp [hp]) l0 (by and_intros <;> omega)
    obtain ⟨a, N, k, STO, GS, GSD, oS, gO, q1, q2, q3, q4, q5, q6, q7, q8, q9, q0⟩ := P9
    exact hret _ n9 _ _ (by k_asm) N9 ⟨a, N, k, STO, GS, GSD, oS, gO, q1, q2, q3, q4, q5, q6, q7, q8, q9, by first | trivial | exact q0⟩)
end
section
variable {w : World} {mean : ExcName → Option Value} {mg mb : Str → Option Value} {news : List (Addr × Obj)}
  {dp un : Nat} {gd : Option (List Code)} {cn : Str} {cs : Scope} {a : Addr} {ccd : Value} {cl : List (Str × Addr)} {outer : List Env} {A₀ : Around} {base h₀ : Heap} {L : Addr} {m : Str → Option Value} {s : Shared} {Q E : Value → Shared → Prop}
theorem useHw {Z CV : Nat} {t8 : Tok} (B : Below A₀ base outer h₀) (F : Fr h₀ L s.heap m) (X : (hd.heap_1 w.params).In h₀) (N0 : News h₀ L s.heap news) (T : Top hd.view_39 (looseW hd.view_39 [Str.ofString "HintWork"]) mean mg mb h₀)
    (hk : cs.kind = .function) (hd' : dp + 100 < recursionLimit) (hu : un + 5000 < cLine)
    (ret : ∀ (aa : WA) (N k STO GS GSD : Nat) (oS gO : Obj) (h' : Heap) (tk' : Nat), (∀ p ∈ news, p.1 < aa.WD) → aa.WD < aa.W → aa.W < GSD → GSD < GS → GS < aa.SD → aa.SD < aa.ST → aa.ST < N → N < STO → DictI oS [] w → GsOk gO → aa.gs = .ref GS → aa.sto = .ref STO → aa.cv = .ref CV → Fr h₀ L h' m → News h₀ L h' (led aa N [] k ((STO, oS) :: (GS, instObj 369 GSD) :: (GSD, gO) :: news)) → Q (.ref aa.W) { s with heap := h', toks := tk' }) :
    wpAny (model PySem.Challenge.rw_pf0201_01.row.prog w) (ktrTop dp un gd cn cs L a ccd cl outer) (call (.ref 476) [.ref Z, .ref CV, .int 8 t8]) Q E s :=
  useM (hw_c Z CV t8 news) B F X N0 T hk hd' hu fun r n' h' tk' P' F' N' => by
    obtain ⟨aa, N, k, STO, GS, GSD, oS, gO, rfl, rfl, h1, ⟨w1, w2, w3, w4, w5, w6, w7⟩, h2, h3, h4, h5, h6, h7⟩ := P'
    exact ret aa N k STO GS GSD oS gO h' tk' h1 w1 w2 w3 w4 w5 w6 w7 h2 h3 h4 h5 h6 F' N'
theorem useHw4 {Z CV : Nat} {t8 : Tok} {p : Int} {tp : Tok} (B : Below A₀ base outer h₀) (F : Fr h₀ L s.heap m) (X : (hd.heap_1 w.params).In h₀) (N0 : News h₀ L s.heap news) (T : Top hd.view_39 (looseW hd.view_39 [Str.ofString "HintWork"]) mean mg mb h₀)
    (hk : cs.kind = .function) (hd' : dp + 100 < recursionLimit) (hu : un + 5000 < cLine)
    (ret : ∀ (aa : WA) (N k STO GS GSD : Nat) (oS gO : Obj) (h' : Heap) (tk' : Nat), (∀ p ∈ news, p.1 < aa.WD) → aa.WD < aa.W → aa.W < GSD → GSD < GS → GS < aa.SD → aa.SD < aa.ST → aa.ST < N → N < STO → DictI oS [] w → GsOk gO → aa.gs = .ref GS → aa.sto = .ref STO → aa.cv = .ref CV → aa.pp = .int p tp → Fr h₀ L h' m → News h₀ L h' (led aa N [] k ((STO, oS) :: (GS, instObj 369 GSD) :: (GSD, gO) :: news)) → Q (.ref aa.W) { s with heap := h', toks := tk' }) :
    wpAny (model PySem.Challenge.rw_pf0201_01.row.prog w) (ktrTop dp un gd cn cs L a ccd cl outer) (call (.ref 476) [.ref Z, .ref CV, .int 8 t8, .int p tp]) Q E s :=
  useM (hw4_c Z CV t8 p tp news) B F X N0 T hk hd' hu fun r n' h' tk' P' F' N' => by
    obtain ⟨aa, N, k, STO, GS, GSD, oS, gO, rfl, rfl, h1, ⟨w1, w2, w3, w4, w5, w6, w7⟩, h2, h3, h4, h5, h6, h7⟩ := P'
    exact ret aa N k STO GS GSD oS gO h' tk' h1 w1 w2 w3 w4 w5 w6 w7 h2 h3 h4 h5 h6 h7 F' N'
end
end

section
open PySem PySem.W PyProof.Rows PySem.Calls
theorem kwPure : True := by
  k_with_none
  w_top off
  trivial
noncomputable abbrev absS (x : Int) : Int := if 0 ≤ x then x else -x
theorem fd128 (p : Int) : Int.fdiv (2 * p + 64) (2 * 64) = Int.fdiv (p + 32) 64 := by
  rw [Int.fdiv_eq_ediv_of_nonneg _ (by decide), Int.fdiv_eq_ediv_of_nonneg _ (by decide)]
  (first | lia | omega)
theorem fd128n (p : Int) : Int.fdiv (0 - 2 * p + 64) (2 * 64) = Int.fdiv (-p + 32) 64 := by
  rw [Int.fdiv_eq_ediv_of_nonneg _ (by decide), Int.fdiv_eq_ediv_of_nonneg _ (by decide)]
  (first | lia | omega)
theorem mul_signs (x y : Int) : ((decide (x < 0) != decide (y < 0)) = false ∧ absS x * absS y = x * y ∧ 0 ≤ x * y) ∨ ((decide (x < 0) != decide (y < 0)) = true ∧ absS x * absS y = -(x * y) ∧ x * y ≤ 0) := by
  by_cases hx : 0 ≤ x <;> by_cases hy : 0 ≤ y
  · left; refine ⟨by simp; (first | lia | omega), by simp [absS, hx, hy], Int.mul_nonneg hx hy⟩
  · right; refine ⟨by simp; (first | lia | omega), by simp [absS, hx, hy, Int.mul_neg, Int.neg_mul], Int.mul_nonpos_of_nonneg_of_nonpos hx (by (first | lia | omega))⟩
  · right; refine ⟨by simp; (first | lia | omega), by simp [absS, hx, hy, Int.mul_neg, Int.neg_mul], Int.mul_nonpos_of_nonpos_of_nonneg (by (first | lia | omega)) hy⟩
  · left; refine ⟨by simp; (first | lia | omega), by simp [absS, hx, hy, Int.mul_neg, Int.neg_mul], Int.mul_nonneg_of_nonpos_of_nonpos (by (first | lia | omega)) (by (first | lia | omega))⟩
theorem rk_mul_t {x y : Int} (h : (decide (x < 0) != decide (y < 0)) = true) : -((absS x * absS y + 32).fdiv 64) = muldivS x y 64 := by
  rcases mul_signs x y with ⟨e, -⟩ | ⟨-, e, l⟩
  · rw [h] at e; cases e
  · rw [e]
    unfold muldivS
    by_cases hp : x * y < 0
    · rw [if_pos hp, fd128n]; (first | lia | omega)
    · rw [if_neg hp, fd128, show x * y = 0 by (first | lia | omega)]; rfl
theorem rk_mul_f {x y : Int} (h : (decide (x < 0) != decide (y < 0)) = false) : (absS x * absS y + 32).fdiv 64 = muldivS x y 64 := by
  rcases mul_signs x y with ⟨-, e, l⟩ | ⟨e, -⟩
  · rw [e]
    unfold muldivS
    rw [if_neg (by (first | lia | omega)), fd128]
  · rw [h] at e; cases e
theorem rk_cut_t {x y : Int} (h : (decide (x < 0) != decide (y < 0)) = true) (hy : y ≠ 0) : -((absS x * 64).fdiv (absS y)) = cutdivS x y := by
  unfold cutdivS absS
  by_cases hx : x < 0 <;> by_cases hy0 : y < 0
  · simp [hx, hy0] at h
  · rw [if_neg hy0, if_pos (show x * 64 < 0 by (first | lia | omega)), if_neg (show ¬ 0 ≤ x by (first | lia | omega)), if_pos (show 0 ≤ y by (first | lia | omega)), show (-x) * 64 = 0 - x * 64 by (first | lia | omega)]; (first | lia | omega)
  · rw [if_pos hy0, if_pos (show 0 ≤ x by (first | lia | omega)), if_neg (show ¬ 0 ≤ y by (first | lia | omega))]
    by_cases h0 : 0 - x * 64 < 0
    · rw [if_pos h0, show 0 - (0 - x * 64) = x * 64 by (first | lia | omega), show 0 - y = -y by (first | lia | omega)]; (first | lia | omega)
    · rw [if_neg h0, show x = 0 by (first | lia | omega)]; simp
  · simp [hx, hy0] at h
theorem rk_cut_f {x y : Int} (h : (decide (x < 0) != decide (y < 0)) = false) (hy : y ≠ 0) : (absS x * 64).fdiv (absS y) = cutdivS x y := by
  unfold cutdivS absS
  by_cases hx : x < 0 <;> by_cases hy0 : y < 0
  · rw [if_pos hy0, if_neg (show ¬ 0 - x * 64 < 0 by (first | lia | omega)), if_neg (show ¬ 0 ≤ x by (first | lia | omega)), if_neg (show ¬ 0 ≤ y by (first | lia | omega)), show (-x) * 64 = 0 - x * 64 by (first | lia | omega), show 0 - y = -y by (first | lia | omega)]
  · simp [hx, hy0] at h
  · simp [hx, hy0] at h
  · rw [if_neg hy0, if_neg (show ¬ x * 64 < 0 by (first | lia | omega)), if_pos (show 0 ≤ x by (first | lia | omega)), if_pos (show 0 ≤ y by (first | lia | omega))]
noncomputable abbrev Rc (c : Int) : Prop := c = 96 ∨ c = 97 ∨ c = 98 ∨ c = 99 ∨ c = 139 ∨ c = 140
noncomputable abbrev Tn (c : Int) (l : List Int) : Prop := (l.any fun x => x == c) = false
noncomputable abbrev Ty (c : Int) (l : List Int) : Prop := (l.any fun x => x == c) = true
section
variable {c x y n0 n1 : Int}
theorem rl1 (e : c = 96) : x + y = twoS c x y := by subst e; rfl
theorem rl2 (m : Ty c [96, 97]) (e : c ≠ 96) : x - y = twoS c x y := by
  have : c = 97 := by simp [Ty] at m; (first | lia | omega)
  subst this; rfl
theorem rl3 (e : c = 139) (t : (n1 = x ∨ n1 = y) ∧ x ≤ n1 ∧ y ≤ n1) : n1 = twoS c x y := by
  subst e; show n1 = if x > y then x else y; split <;> (first | lia | omega)
theorem rl4 (m : Ty c [139, 140]) (e : c ≠ 139) (t : (n0 = x ∨ n0 = y) ∧ n0 ≤ x ∧ n0 ≤ y) : n0 = twoS c x y := by
  have : c = 140 := by simp [Ty] at m; (first | lia | omega)
  subst this; show n0 = if x < y then x else y; split <;> (first | lia | omega)
theorem rl5 (e : c = 99) (h : (decide (x < 0) != decide (y < 0)) = true) : -((absS x * absS y + 32).fdiv 64) = twoS c x y := by subst e; exact rk_mul_t h
theorem rl6 (e : c = 99) (h : (decide (x < 0) != decide (y < 0)) = false) : (absS x * absS y + 32).fdiv 64 = twoS c x y := by subst e; exact rk_mul_f h
theorem rl98 (hc : Rc c) (m : Tn c [96, 97]) (m2 : Tn c [139, 140]) (e : c ≠ 99) : c = 98 := by simp [Tn] at m m2; (first | lia | omega)
theorem rl8 (hc : Rc c) (m : Tn c [96, 97]) (m2 : Tn c [139, 140]) (e : c ≠ 99) (hy : y ≠ 0) (h : (decide (x < 0) != decide (y < 0)) = true) : -((absS x * 64).fdiv (absS y)) = twoS c x y := by
  obtain rfl := rl98 hc m m2 e; exact rk_cut_t h hy
theorem rl9 (hc : Rc c) (m : Tn c [96, 97]) (m2 : Tn c [139, 140]) (e : c ≠ 99) (hy : y ≠ 0) (h : (decide (x < 0) != decide (y < 0)) = false) : (absS x * 64).fdiv (absS y) = twoS c x y := by
  obtain rfl := rl98 hc m m2 e; exact rk_cut_f h hy
end
theorem held_wrap (n : Int) : (if Int.fmod n 4294967296 ≥ 2147483648 then Int.fmod n 4294967296 - 4294967296 else Int.fmod n 4294967296) = wrap32S n := by
  unfold wrap32S
  rw [Int.fmod_eq_emod_of_nonneg _ (by decide), Int.fmod_eq_emod_of_nonneg _ (by decide)]
  split <;> (first | lia | omega)
theorem held_t {n : Int} (h : Int.fmod n (2 ^ Int.toNat 32) ≥ 2 ^ Int.toNat 31) : Int.fmod n (2 ^ Int.toNat 32) - 2 ^ Int.toNat 32 = wrap32S n := by
  have e := held_wrap n
  rw [show (2 : Int) ^ Int.toNat 32 = 4294967296 by decide, show (2 : Int) ^ Int.toNat 31 = 2147483648 by decide] at h
  rw [show (2 : Int) ^ Int.toNat 32 = 4294967296 by decide]
  rw [if_pos h] at e; exact e
theorem held_f {n : Int} (h : Int.fmod n (2 ^ Int.toNat 32) < 2 ^ Int.toNat 31) : Int.fmod n (2 ^ Int.toNat 32) = wrap32S n := by
  have e := held_wrap n
  rw [show (2 : Int) ^ Int.toNat 32 = 4294967296 by decide, show (2 : Int) ^ Int.toNat 31 = 2147483648 by decide] at h
  rw [show (2 : Int) ^ Int.toNat 32 = 4294967296 by decide]
  rw [if_neg (by (first | lia | omega))] at e; exact e
end

section
open PySem PySem.W PyProof.Rows PySem.Calls
theorem kwDue : True := by
  k_with_none
  w_top off
  trivial
/-- _law_due of a code and a stack of ours answers o -/
theorem kwDue_1 : True := by
  k_with_none
  k_with "cell_enter" => ((refine' enterM ?k1 ?k2 ?k3 ?k4 ?k5 ?kA ?kF ?kK ?k6 ?k7 ?k8 ?k9 ?kB ?_ ?c2 ?c3 ?c4 ?c5; (case kA => exact rfl); (case kF => exact rfl); (case kK => assumption); (case k1 => k_asm); (case k2 => k_asm); (case k3 => k_asm); (case k4 => k_asm); (case k5 => k_asm); (case k6 => k_is); (case k7 => k_is); (case k8 => first | ktr_room | k_room); (case k9 => first | exact BindsTo.of_eq rfl | exact binds_K (by k_in) rfl (by k_is) rfl rfl rfl); (case c5 => decide); (case kB => exact locs rfl); (case c2 => exact rfl); (case c3 => exact rfl); (case c4 => exact rfl); k_whole; intro mqzz gqzz Lqzz hqzz tqzz FGqzz Fqzz Nqzz Bqzz Xqzz Tqzz qkqzz ekqzz))
  k_with "storeName" => ((k_dflt (refine' storeL ?F ?N ?a ?b ?_; (case F => k_asm); (case N => k_asm); (case a => rfl); (case b => rfl); k_whole; intro mszz hszz tszz Fszz Nszz; (try k_sweep))))
  k_with "leaveF" => ((k_dflt (first | (refine' leaveF_ret ?k1 ?k2 ?_; (case k1 => k_asm); (case k2 => k_asm); k_whole) | (refine' leaveF_next ?k1 ?k2 ?_; (case k1 => k_asm); (case k2 => k_asm); k_whole)); intro kFlzz kNlzz; ground_anew kFlzz))
  k_with "ktr_room" => (((try dsimp only [depth_under_make, depth_under_kw, depth_in1, depth_deeper]); first | exact room1 (by assumption) (by decide) | exact room2 (by assumption) (by decide) | exact room0 (by assumption) | exact room3 (by assumption) (by decide) | exact room4 (by assumption) (by decide)))
  k_with "ktr_units" => (((try dsimp only [units_under_make, units_in1, units_deeper, Around.mark_units]); first | exact room1 (by assumption) (by decide) | exact room2 (by assumption) (by decide) | exact room0 (by assumption) | exact room3 (by assumption) (by decide) | exact room4 (by assumption) (by decide)))
  k_with "k_ne" => ((refine neN ?_; (try dsimp only); first | assumption | exact Ne.symm (by assumption) | exact Nat.ne_of_gt (by assumption) | exact Nat.ne_of_lt (by assumption) | exact neP1 (by assumption) | exact neP2 (by assumption) | exact neP3 (by assumption) | exact neP4 (by assumption) | exact neP5 (by assumption)))
  trivial
noncomputable def DueR (w : World) (mean : ExcName → Option Value) (mg mb : Str → Option Value) (c : Int) (xs : List Int) (o : Option (List Int)) : Prop :=
  ∀ (tc : Tok) (S : Nat) (vs : List Value) (k : Nat) (news : List (Addr × Obj)), IntsAre vs xs → (∀ p ∈ news, p.1 ≠ S) → CbM w mean mg mb 541 60 2000 ((S, listOf vs.toArray k) :: news) [.int c tc, .ref S]
    (fun n' r => match o with | none => r = .none ∧ n' = (S, listOf vs.toArray k) :: news | some ys => ∃ D us k2, r = .ref D ∧ IntsAre us ys ∧ n' = (D, listOf us.toArray k2) :: (S, listOf vs.toArray k) :: news)
theorem ints_cast {us : List Value} {ys zs : List Int} (h : IntsAre us ys) (e : ys = zs) : IntsAre us zs := e ▸ h
theorem held_ite (n : Int) : (if (2 : Int) ^ Int.toNat 31 ≤ Int.fmod n (2 ^ Int.toNat 32) then Int.fmod n (2 ^ Int.toNat 32) - 2 ^ Int.toNat 32 else Int.fmod n (2 ^ Int.toNat 32)) = wrap32S n := by
  split
  · exact held_t (by assumption)
  · exact held_f (by (first | lia | omega))
theorem o100 (y : Int) : wrap32S (if 0 ≤ y then y else -y) = oneS 100 y := by
  show _ = wrap32S (if y ≥ 0 then y else 0 - y)
  congr 1; split <;> (first | lia | omega)
theorem o101 (y : Int) : wrap32S (-y) = oneS 101 y := by
  show _ = wrap32S (0 - y)
  congr 1; (first | lia | omega)
theorem o102 (y : Int) : wrap32S (y - Int.fmod y 64) = oneS 102 y := by
  show _ = wrap32S (floor6S y)
  congr 1; unfold floor6S
  rw [Int.fmod_eq_emod_of_nonneg _ (by decide), Int.fdiv_eq_ediv_of_nonneg _ (by decide)]; (first | lia | omega)
theorem o103 (y : Int) : wrap32S (y - Int.fmod y 64 + 64 * if (y - Int.fmod y 64 != y) = true then 1 else 0) = oneS 103 y := by
  show _ = wrap32S (ceiling6S y)
  congr 1; unfold ceiling6S
  rw [Int.fmod_eq_emod_of_nonneg _ (by decide), Int.fdiv_eq_ediv_of_nonneg _ (by decide)]
  split
  · rename_i h; simp at h; (first | lia | omega)
  · rename_i h; simp at h; (first | lia | omega)
theorem o103' (y : Int) : wrap32S (y - Int.fmod y 64 + 64 * if ¬ (y - Int.fmod y 64 = y) then 1 else 0) = oneS 103 y := by
  rw [← o103 y]; congr 2; simp only [bne_iff_ne, ne_eq]
theorem told_one {c : Int} (hc : 100 ≤ c ∧ c ≤ 103) (y : Int) : wrap32S (([if 0 ≤ y then y else -y, -y, y - Int.fmod y 64, y - Int.fmod y 64 + 64 * if (y - Int.fmod y 64 != y) = true then 1 else 0] : List Int).getD (c - 100).toNat 0) = oneS c y := by
  have : c = 100 ∨ c = 101 ∨ c = 102 ∨ c = 103 := by (first | lia | omega)
  rcases this with rfl | rfl | rfl | rfl
  · exact o100 y
  · exact o101 y
  · exact o102 y
  · exact o103 y
theorem told_one' {c : Int} (hc : 100 ≤ c ∧ c ≤ 103) (y : Int) : wrap32S (([if 0 ≤ y then y else -y, -y, y - Int.fmod y 64, y - Int.fmod y 64 + 64 * if ¬ (y - Int.fmod y 64 = y) then 1 else 0] : List Int).getD (c - 100).toNat 0) = oneS c y := by
  rw [← told_one hc y]; congr 2; simp only [bne_iff_ne, ne_eq]
theorem due_take {h₀ h : Heap} {L : Addr} {p : Addr × Obj} {l rest : List (Addr × Obj)} (N : News h₀ L h (p :: l)) (sub : ∀ q ∈ rest, q ∈ l) : News h₀ L h (p :: rest) := kst_newsOf N fun q hq => by
  rcases List.mem_cons.mp hq with e | e
  · exact e ▸ List.mem_cons_self
  · exact List.mem_cons_of_mem _ (sub q e)
theorem due_sub {a : Addr × Obj} {l r : List (Addr × Obj)} (h : ∀ p ∈ l, p ∈ r) : ∀ p ∈ a :: l, p ∈ a :: r := by
  intro p hp
  rcases List.mem_cons.mp hp with q | q
  · exact q ▸ List.mem_cons_self
  · exact List.mem_cons_of_mem _ (h p q)
theorem twoE {xs : List Int} {x y : Int} {vs : List Value} {G : Prop} (hv : IntsAre vs (xs ++ [x] ++ [y])) (k : ∀ zs, zs = xs ++ [x] ++ [y] → IntsAre vs zs → vs.length = zs.length → decide (zs = []) = false → zs.getD (-2 + (zs.length : Int)).toNat 0 = x → zs.getD (-1 + (zs.length : Int)).toNat 0 = y → zs.take (zs.length - 2) = xs → zs.length = xs.length + 2 → G) : G :=
  k _ rfl hv hv.length (by simp) (by rw [show (-2 + ((xs ++ [x] ++ [y]).length : Int)).toNat = xs.length by (simp; (first | lia | omega))]; simp) (by rw [show (-1 + ((xs ++ [x] ++ [y]).length : Int)).toNat = xs.length + 1 by (simp; (first | lia | omega))]; simp) (by simp) (by simp)
theorem oneE {xs : List Int} {y : Int} {vs : List Value} {G : Prop} (hv : IntsAre vs (xs ++ [y])) (k : ∀ zs, zs = xs ++ [y] → IntsAre vs zs → vs.length = zs.length → decide (zs = []) = false → zs.getD (-1 + (zs.length : Int)).toNat 0 = y → zs.take (zs.length - 1) = xs → zs.length = xs.length + 1 → G) : G :=
  k _ rfl hv hv.length (by simp) (by rw [show (-1 + ((xs ++ [y]).length : Int)).toNat = xs.length by (simp; (first | lia | omega))]; simp) (by simp) (by simp)
/-- written ints -/
inductive CL : List PySem.Expr → List Int → Prop
  | nil : CL [] []
  | cons (n : Int) (k : Nat) (p : Pos) {es : List PySem.Expr} {ns : List Int} (h : CL es ns) : CL (.Constant (.int n) k p :: es) (n :: ns)
theorem CL.walk {M : Model} {A : Around} {env : Env} {pos : Pos} {E : Value → Shared → Prop} {es : List PySem.Expr} {ns : List Int} (h : CL es ns) : ∀ {Q : List Value → Shared → Prop} {s : Shared}, (∀ vs tk', IntsAre vs ns → Q vs { s with toks := tk' }) → wpAny M A (spliced (backTo pos (starEach es env))) Q E s := by
  induction h with
  | nil => intro Q s h; exact args_nil (h [] s.toks .nil)
  | cons n k p _ ih => intro Q s h; exact args_cons (constG fun t tk => ih fun vs tk' hi => h _ _ (.cons _ _ hi))
theorem CL.length {es : List PySem.Expr} {ns : List Int} (h : CL es ns) : es.length = ns.length := by
  induction h with
  | nil => rfl
  | cons n k p _ ih => simp [ih]
theorem inT {prog : Program} {w : World} {A : Around} {x : Str} {es : List PySem.Expr} {ns : List Int} {p1 p2 p3 : Pos} {c : Int} {tc : Tok} {b : Bool} {news : List (Addr × Obj)} {cn : Str} {cs : Scope} {a : Addr} {ccd : Value} {cl : List (Str × Addr)} {h₀ : Heap} {L : Addr} {m : Str → Option Value} {s : Shared} {Q : Bool → Shared → Prop} {E : Value → Shared → Prop} {whole : Sem Value}
    (he : CL es ns) (hb : (ns.any fun x => x == c) = b) (F : Fr h₀ L s.heap m) (N : News h₀ L s.heap news) (hm : m x = some (.int c tc)) (hk : cs.kind = .function) (hx : (envX cn cs L a ccd cl).kindOf x = some .local) (hd : (x == ("__debug__" : Str)) = false) (hl : ns.length ≤ 100)
    (ret : ∀ h' tk', Fr h₀ L h' m → News h₀ L h' news → Q b { s with heap := h', toks := tk' }) :
    wpAny (model prog w) A (isTrue (.Compare (.Name x p1) [.In] [.List es p2] p3) (envX cn cs L a ccd cl) whole) Q E s :=
  wpAny_isTrue_Compare1 (nameX_L F hm (List_ (he.walk fun vs tk' hi => newList_K F N (fun l h' F' N' lt => in_list_ints (hl := ⟨_, (N' _ (.head _)).1, rfl, _, rfl⟩) hi (by rw [hb]; exact wpAny_truthy_bool (ret h' _ F' fun p hp => N' p (.tail _ hp)))) (by rw [PySem.sizeLine_eq, hi.length]; (first | lia | omega)))) hk hx hd)
section
variable {w : World} {mean : ExcName → Option Value} {mg mb : Str → Option Value}
theorem kwDue_2 : True := by
  k_with_none
  k_with "cell_enter" => ((refine' enterM ?k1 ?k2 ?k3 ?k4 ?k5 ?kA ?kF ?kK ?k6 ?k7 ?k8 ?k9 ?kB ?_ ?c2 ?c3 ?c4 ?c5; (case kA => exact rfl); (case kF => exact rfl); (case kK => assumption); (case k1 => k_asm); (case k2 => k_asm); (case k3 => k_asm); (case k4 => k_asm); (case k5 => k_asm); (case k6 => k_is); (case k7 => k_is); (case k8 => first | ktr_room | k_room); (case k9 => first | exact BindsTo.of_eq rfl | exact binds_K (by k_in) rfl (by k_is) rfl rfl rfl); (case c5 => decide); (case kB => exact locs rfl); (case c2 => exact rfl); (case c3 => exact rfl); (case c4 => exact rfl); k_whole; intro mqzz gqzz Lqzz hqzz tqzz FGqzz Fqzz Nqzz Bqzz Xqzz Tqzz qkqzz ekqzz))
  k_with "storeName" => ((k_dflt (refine' storeL ?F ?N ?a ?b ?_; (case F => k_asm); (case N => k_asm); (case a => rfl); (case b => rfl); k_whole; intro mszz hszz tszz Fszz Nszz; (try k_sweep))))
  k_with "leaveF" => ((k_dflt (first | (refine' leaveF_ret ?k1 ?k2 ?_; (case k1 => k_asm); (case k2 => k_asm); k_whole) | (refine' leaveF_next ?k1 ?k2 ?_; (case k1 => k_asm); (case k2 => k_asm); k_whole)); intro kFlzz kNlzz; ground_anew kFlzz))
  k_with "ktr_room" => (((try dsimp only [depth_under_make, depth_under_kw, depth_in1, depth_deeper]); first | exact room1 (by assumption) (by decide) | exact room2 (by assumption) (by decide) | exact room0 (by assumption) | exact room3 (by assumption) (by decide) | exact room4 (by assumption) (by decide)))
  k_with "ktr_units" => (((try dsimp only [units_under_make, units_in1, units_deeper, Around.mark_units]); first | exact room1 (by assumption) (by decide) | exact room2 (by assumption) (by decide) | exact room0 (by assumption) | exact room3 (by assumption) (by decide) | exact room4 (by assumption) (by decide)))
  k_with "k_ne" => ((refine neN ?_; (try dsimp only); first | assumption | exact Ne.symm (by assumption) | exact Nat.ne_of_gt (by assumption) | exact Nat.ne_of_lt (by assumption) | exact neP1 (by assumption) | exact neP2 (by assumption) | exact neP3 (by assumption) | exact neP4 (by assumption) | exact neP5 (by assumption)))
  k_with "k_all" => (assumption)
  k_with "execs cons" => (((with_reducible show wpAny _ _ _ _ _ (PySem.Shared.mk _ _ _ (_ + 1) _)); refine genToks ?_; intro tk9zz))
  k_with "eval Constant int" => ((refine constG ?_; intro t9zz tk9zz))
  k_with "ke_room" => (ktr_units)
  k_with "k_room" => (((try simp only [depth_under_make, depth_under_kw, depth_in1]); ktr_room))
  trivial
noncomputable abbrev Tc (c : Int) : Prop := c = 80 ∨ c = 81 ∨ c = 82 ∨ c = 83 ∨ c = 84 ∨ c = 85 ∨ c = 90 ∨ c = 91
section
variable {c x y : Int}
theorem tl1 (hc : Tc c) (m : (([80, 81] : List Int).any fun x => x == c) = true) (h : x < y) : decide (x < y) = comparedS c x y := by rcases hc with rfl | rfl | rfl | rfl | rfl | rfl | rfl | rfl <;> first | (simp_all [comparedS]; done) | (simp only [comparedS, bne]; cases x == y <;> rfl) | (rw [Bool.eq_iff_iff]; simp_all [comparedS]; (first | lia | omega)) | (simp_all [comparedS]; (first | lia | omega))
theorem tl2 (hc : Tc c) (m : (([80, 81] : List Int).any fun x => x == c) = true) (h : ¬ x < y) (e : c = 81) : (x == y) = comparedS c x y := by rcases hc with rfl | rfl | rfl | rfl | rfl | rfl | rfl | rfl <;> first | (simp_all [comparedS]; done) | (simp only [comparedS, bne]; cases x == y <;> rfl) | (rw [Bool.eq_iff_iff]; simp_all [comparedS]; (first | lia | omega)) | (simp_all [comparedS]; (first | lia | omega))
theorem tl3 (hc : Tc c) (m : (([80, 81] : List Int).any fun x => x == c) = true) (h : ¬ x < y) (e : c ≠ 81) : (c == 81) = comparedS c x y := by rcases hc with rfl | rfl | rfl | rfl | rfl | rfl | rfl | rfl <;> first | (simp_all [comparedS]; done) | (simp only [comparedS, bne]; cases x == y <;> rfl) | (rw [Bool.eq_iff_iff]; simp_all [comparedS]; (first | lia | omega)) | (simp_all [comparedS]; (first | lia | omega))
theorem tl4 (hc : Tc c) (m : (([82, 83] : List Int).any fun x => x == c) = true) (h : x < y) : (!decide (x < y)) = comparedS c x y := by rcases hc with rfl | rfl | rfl | rfl | rfl | rfl | rfl | rfl <;> first | (simp_all [comparedS]; done) | (simp only [comparedS, bne]; cases x == y <;> rfl) | (rw [Bool.eq_iff_iff]; simp_all [comparedS]; (first | lia | omega)) | (simp_all [comparedS]; (first | lia | omega))
theorem tl5 (hc : Tc c) (m : (([82, 83] : List Int).any fun x => x == c) = true) (h : ¬ x < y) (e : c = 83) : (c == 83) = comparedS c x y := by rcases hc with rfl | rfl | rfl | rfl | rfl | rfl | rfl | rfl <;> first | (simp_all [comparedS]; done) | (simp only [comparedS, bne]; cases x == y <;> rfl) | (rw [Bool.eq_iff_iff]; simp_all [comparedS]; (first | lia | omega)) | (simp_all [comparedS]; (first | lia | omega))
theorem tl6 (hc : Tc c) (m : (([82, 83] : List Int).any fun x => x == c) = true) (h : ¬ x < y) (e : c ≠ 83) : (!x == y) = comparedS c x y := by rcases hc with rfl | rfl | rfl | rfl | rfl | rfl | rfl | rfl <;> first | (simp_all [comparedS]; done) | (simp only [comparedS, bne]; cases x == y <;> rfl) | (rw [Bool.eq_iff_iff]; simp_all [comparedS]; (first | lia | omega)) | (simp_all [comparedS]; (first | lia | omega))
theorem tl7 (hc : Tc c) (m : (([84, 85] : List Int).any fun x => x == c) = true) : ((x == y) == (c == 84)) = comparedS c x y := by rcases hc with rfl | rfl | rfl | rfl | rfl | rfl | rfl | rfl <;> first | (simp_all [comparedS]; done) | (simp only [comparedS, bne]; cases x == y <;> rfl) | (rw [Bool.eq_iff_iff]; simp_all [comparedS]; (first | lia | omega)) | (simp_all [comparedS]; (first | lia | omega))
theorem tl8 (hc : Tc c) (m : Tn c [80, 81]) (m2 : Tn c [82, 83]) (m3 : Tn c [84, 85]) (hx : x ≠ 0) (hy : y ≠ 0) : ((2 : Int) == 2) = comparedS c x y := by rcases hc with rfl | rfl | rfl | rfl | rfl | rfl | rfl | rfl <;> first | (simp_all [comparedS]; done) | (simp only [comparedS, bne]; cases x == y <;> rfl) | (rw [Bool.eq_iff_iff]; simp_all [comparedS]; (first | lia | omega)) | (simp_all [comparedS]; (first | lia | omega))
theorem tl9 (hc : Tc c) (m : Tn c [80, 81]) (m2 : Tn c [82, 83]) (m3 : Tn c [84, 85]) (hx : x ≠ 0) (hy : y = 0) (e : c = 91) : (!decide ([x] = [])) = comparedS c x y := by rcases hc with rfl | rfl | rfl | rfl | rfl | rfl | rfl | rfl <;> first | (simp_all [comparedS]; done) | (simp only [comparedS, bne]; cases x == y <;> rfl) | (rw [Bool.eq_iff_iff]; simp_all [comparedS]; (first | lia | omega)) | (simp_all [comparedS]; (first | lia | omega))
theorem tl10 (hc : Tc c) (m : Tn c [80, 81]) (m2 : Tn c [82, 83]) (m3 : Tn c [84, 85]) (hx : x = 0) (hy : y ≠ 0) (e : c = 91) : (!decide ([y] = [])) = comparedS c x y := by rcases hc with rfl | rfl | rfl | rfl | rfl | rfl | rfl | rfl <;> first | (simp_all [comparedS]; done) | (simp only [comparedS, bne]; cases x == y <;> rfl) | (rw [Bool.eq_iff_iff]; simp_all [comparedS]; (first | lia | omega)) | (simp_all [comparedS]; (first | lia | omega))
theorem tl11 (hc : Tc c) (m : Tn c [80, 81]) (m2 : Tn c [82, 83]) (m3 : Tn c [84, 85]) (hx : x = 0 ∨ y = 0) (_ : x = 0 ∨ y = 0) (e : c ≠ 91) : (c == 91) = comparedS c x y := by rcases hc with rfl | rfl | rfl | rfl | rfl | rfl | rfl | rfl <;> first | (simp_all [comparedS]; done) | (simp only [comparedS, bne]; cases x == y <;> rfl) | (rw [Bool.eq_iff_iff]; simp_all [comparedS]; (first | lia | omega)) | (simp_all [comparedS]; (first | lia | omega))
theorem tl12 (hc : Tc c) (m : Tn c [80, 81]) (m2 : Tn c [82, 83]) (m3 : Tn c [84, 85]) (hx : x = 0) (hy : y = 0) : false = comparedS c x y := by rcases hc with rfl | rfl | rfl | rfl | rfl | rfl | rfl | rfl <;> first | (simp_all [comparedS]; done) | (simp only [comparedS, bne]; cases x == y <;> rfl) | (rw [Bool.eq_iff_iff]; simp_all [comparedS]; (first | lia | omega)) | (simp_all [comparedS]; (first | lia | omega))
end
theorem truth_c (c x y : Int) (tc tx ty : Tok) (news : List (Addr × Obj)) (hc : c = 80 ∨ c = 81 ∨ c = 82 ∨ c = 83 ∨ c = 84 ∨ c = 85 ∨ c = 90 ∨ c = 91) : CbM w mean mg mb 527 40 1500 news [.int c tc, .int x tx, .int y ty] (fun n' r => n' = news ∧ r = .bool (comparedS c x y)) := by
  refine CbM_mk ?_; intro dpY unY gdY cnY csY acY ccY clY ouY a0Y baY h0Y LY mY shY sgY sdY skY soY QY EY aB aF aX aN aT akY adY auY hret
  k_dflt cell_enter
  k_with_none
  k_with "cell_enter" => ((refine' enterM ?k1 ?k2 ?k3 ?k4 ?k5 ?kA ?kF ?kK ?k6 ?k7 ?k8 ?k9 ?kB ?_ ?c2 ?c3 ?c4 ?c5; (case kA => exact rfl); (case kF => exact rfl); (case kK => assumption); (case k1 => k_asm); (case k2 => k_asm); (case k3 => k_asm); (case k4 => k_asm); (case k5 => k_asm); (case k6 => k_is); (case k7 => k_is); (case k8 => first | ktr_room | k_room); (case k9 => first | exact BindsTo.of_eq rfl | exact binds_K (by k_in) rfl (by k_is) rfl rfl rfl); (case c5 => decide); (case kB => exact locs rfl); (case c2 => exact rfl); (case c3 => exact rfl); (case c4 => exact rfl); k_whole; intro mqzz gqzz Lqzz hqzz tqzz FGqzz Fqzz Nqzz Bqzz Xqzz Tqzz qkqzz ekqzz))
  k_with "storeName" => ((k_dflt (refine' storeL ?F ?N ?a ?b ?_; (case F => k_asm); (case N => k_asm); (case a => rfl); (case b => rfl); k_whole; intro mszz hszz tszz Fszz Nszz; (try k_sweep))))
  k_with "leaveF" => ((k_dflt (first | (refine' leaveF_ret ?k1 ?k2 ?_; (case k1 => k_asm); (case k2 => k_asm); k_whole) | (refine' leaveF_next ?k1 ?k2 ?_; (case k1 => k_asm); (case k2 => k_asm); k_whole)); intro kFlzz kNlzz; ground_anew kFlzz))
  k_with "ktr_room" => (((try dsimp only [depth_under_make, depth_under_kw, depth_in1, depth_deeper]); first | exact room1 (by assumption) (by decide) | exact room2 (by assumption) (by decide) | exact room0 (by assumption) | exact room3 (by assumption) (by decide) | exact room4 (by assumption) (by decide)))
  k_with "ktr_units" => (((try dsimp only [units_under_make, units_in1, units_deeper, Around.mark_units]); first | exact room1 (by assumption) (by decide) | exact room2 (by assumption) (by decide) | exact room0 (by assumption) | exact room3 (by assumption) (by decide) | exact room4 (by assumption) (by decide)))
  k_with "k_ne" => ((refine neN ?_; (try dsimp only); first | assumption | exact Ne.symm (by assumption) | exact Nat.ne_of_gt (by assumption) | exact Nat.ne_of_lt (by assumption) | exact neP1 (by assumption) | exact neP2 (by assumption) | exact neP3 (by assumption) | exact neP4 (by assumption) | exact neP5 (by assumption)))
  k_with "k_all" => (assumption)
  k_with "execs cons" => (((with_reducible show wpAny _ _ _ _ _ (PySem.Shared.mk _ _ _ (_ + 1) _)); refine genToks ?_; intro tk9zz))
  k_with "eval Constant int" => ((refine constG ?_; intro t9zz tk9zz))
  k_with "ke_room" => (ktr_units)
  k_with "k_room" => (((try simp only [depth_under_make, depth_under_kw, depth_in1]); ktr_room))
  k_with "spliced" => first | ((with_reducible show wpAny _ _ (spliced (backTo _ (starEach [PySem.Expr.Name _ _] _))) _ _ _); k_dflt (refine' argsN ?hF ?h0 rfl rfl rfl ?_; (case hF => k_asm); (case h0 => exact rfl); k_whole)) | ((with_reducible show wpAny _ _ (spliced (backTo _ (starEach [PySem.Expr.Constant (Const.int _) _ _] _))) _ _ _); refine argsC ?_; intro t9 tk9) | ((with_reducible show wpAny _ _ (spliced (backTo _ (starEach [PySem.Expr.Name _ _, PySem.Expr.Name _ _] _))) _ _ _); k_dflt (refine' argsNN ?hF ?h0 ?h1 rfl rfl rfl rfl rfl ?_; (case hF => k_asm); (case h0 => exact rfl); (case h1 => exact rfl); k_whole)) | ((with_reducible show wpAny _ _ (spliced (backTo _ (starEach [PySem.Expr.Name _ _, PySem.Expr.Constant (Const.int _) _ _] _))) _ _ _); k_dflt (refine' argsNC ?hF ?h0 rfl rfl rfl ?_; (case hF => k_asm); (case h0 => exact rfl); k_whole); intro t9 tk9) | ((with_reducible show wpAny _ _ (spliced (backTo _ (starEach [PySem.Expr.Name _ _, PySem.Expr.Name _ _, PySem.Expr.Name _ _] _))) _ _ _); k_dflt (refine' argsNNN ?hF ?h0 ?h1 ?h2 rfl rfl rfl rfl rfl rfl rfl ?_; (case hF => k_asm); (case h0 => exact rfl); (case h1 => exact rfl); (case h2 => exact rfl); k_whole))
  k_with "isTrue Compare" => ((with_reducible show wpAny _ _ (isTrue (PySem.Expr.Compare (PySem.Expr.Name _ _) [_] [PySem.Expr.Constant (Const.int _) _ _] _) _ _) _ _ _); k_dflt (refine' tsNC ?hF ?h0 ?hc rfl rfl rfl ?_; (case hF => k_asm); (case h0 => exact rfl); (case hc => exact rfl); k_whole); intro tk9)
  k_with "execs cons" => first | ((with_reducible show wpAny _ _ _ _ _ (PySem.Shared.mk _ _ _ (_ + 1) _)); refine genToks ?_; intro tk9) | (refine consQ ?_; intro q9)
  k_with "flowQ" => first | (refine flow_next ?_) | (refine flow_ret ?_)
  k_with "isTrue Compare" => ((with_reducible show wpAny _ _ (isTrue (Expr.Compare (Expr.Name _ _) [CmpOp.In] [Expr.List _ _] _) _ _) _ _ _); k_dflt (refine' inT (b := ?zb) ?ze ?zh ?zF ?zN ?zm ?zk ?zx ?zd ?zl ?_; (case ze => (repeat' constructor)); (case zF => k_asm); (case zN => k_asm); (case zm => exact rfl); (case zh => first | assumption | exact rfl); (case zk => exact rfl); (case zx => exact rfl); (case zd => decide); (case zl => decide); k_whole; intro h9 tk9 F9 N9; (try k_sweep)))
  k_with "CompEnd" => ((k_dflt (rename News _ _ _ _ => kN; refine LCg.CompEnd.intro (by assumption) kN _ (fun p hp => hp) (by simp only [LCg.Off3]; assumption) (by first | lcg_src | assumption) ?_)))
  k_steps
  all_goals (
    rename News _ _ _ _ => kN
    refine hret _ _ _ _ (by k_asm) (kst_newsOf kN (by intro p hp; first | ((repeat' (first | exact hp | apply List.Mem.tail)); done) | simp [hp])) ⟨rfl, congrArg Value.bool ?_⟩
    first
      | exact tl1 hc (by assumption) (by assumption)
      | exact tl2 hc (by assumption) (by assumption) (by assumption)
      | exact tl3 hc (by assumption) (by assumption) (by assumption)
      | exact tl4 hc (by assumption) (by assumption)
      | exact tl5 hc (by assumption) (by assumption) (by assumption)
      | exact tl6 hc (by assumption) (by assumption) (by assumption)
      | exact tl7 hc (by assumption)
      | exact tl8 hc (by assumption) (by assumption) (by assumption) (by assumption) (by assumption)
      | exact tl9 hc (by assumption) (by assumption) (by assumption) (by (first | lia | omega)) (by (first | lia | omega)) (by assumption)
      | exact tl10 hc (by assumption) (by assumption) (by assumption) (by (first | lia | omega)) (by (first | lia | omega)) (by assumption)
      | exact tl11 hc (by assumption) (by assumption) (by assumption) (by (first | lia | omega)) (by (first | lia | omega)) (by assumption)
      | exact tl12 hc (by assumption) (by assumption) (by assumption) (by (first | lia | omega)) (by (first | lia | omega)))
theorem kwDue_3 : True := by
  k_with_none
  k_with "cell_enter" => ((refine' enterM ?k1 ?k2 ?k3 ?k4 ?k5 ?kA ?kF ?kK ?k6 ?k7 ?k8 ?k9 ?kB ?_ ?c2 ?c3 ?c4 ?c5; (case kA => exact rfl); (case kF => exact rfl); (case kK => assumption); (case k1 => k_asm); (case k2 => k_asm); (case k3 => k_asm); (case k4 => k_asm); (case k5 => k_asm); (case k6 => k_is); (case k7 => k_is); (case k8 => first | ktr_room | k_room); (case k9 => first | exact BindsTo.of_eq rfl | exact binds_K (by k_in) rfl (by k_is) rfl rfl rfl); (case c5 => decide); (case kB => exact locs rfl); (case c2 => exact rfl); (case c3 => exact rfl); (case c4 => exact rfl); k_whole; intro mqzz gqzz Lqzz hqzz tqzz FGqzz Fqzz Nqzz Bqzz Xqzz Tqzz qkqzz ekqzz))
  k_with "storeName" => ((k_dflt (refine' storeL ?F ?N ?a ?b ?_; (case F => k_asm); (case N => k_asm); (case a => rfl); (case b => rfl); k_whole; intro mszz hszz tszz Fszz Nszz; (try k_sweep))))
  k_with "leaveF" => ((k_dflt (first | (refine' leaveF_ret ?k1 ?k2 ?_; (case k1 => k_asm); (case k2 => k_asm); k_whole) | (refine' leaveF_next ?k1 ?k2 ?_; (case k1 => k_asm); (case k2 => k_asm); k_whole)); intro kFlzz kNlzz; ground_anew kFlzz))
  k_with "ktr_room" => (((try dsimp only [depth_under_make, depth_under_kw, depth_in1, depth_deeper]); first | exact room1 (by assumption) (by decide) | exact room2 (by assumption) (by decide) | exact room0 (by assumption) | exact room3 (by assumption) (by decide) | exact room4 (by assumption) (by decide)))
  k_with "ktr_units" => (((try dsimp only [units_under_make, units_in1, units_deeper, Around.mark_units]); first | exact room1 (by assumption) (by decide) | exact room2 (by assumption) (by decide) | exact room0 (by assumption) | exact room3 (by assumption) (by decide) | exact room4 (by assumption) (by decide)))
  k_with "k_ne" => ((refine neN ?_; (try dsimp only); first | assumption | exact Ne.symm (by assumption) | exact Nat.ne_of_gt (by assumption) | exact Nat.ne_of_lt (by assumption) | exact neP1 (by assumption) | exact neP2 (by assumption) | exact neP3 (by assumption) | exact neP4 (by assumption) | exact neP5 (by assumption)))
  k_with "k_all" => (assumption)
  k_with "execs cons" => (((with_reducible show wpAny _ _ _ _ _ (PySem.Shared.mk _ _ _ (_ + 1) _)); refine genToks ?_; intro tk9zz))
  k_with "eval Constant int" => ((refine constG ?_; intro t9zz tk9zz))
  k_with "ke_room" => (ktr_units)
  k_with "k_room" => (((try simp only [depth_under_make, depth_under_kw, depth_in1]); ktr_room))
  k_with "binaryOp FloorDiv int int" => ((k_here; refine floordiv_int (by split <;> (first | lia | omega)) ?_ (Or.inl (noPyl (by split <;> (first | lia | omega))))))
  trivial
theorem reck_c (c x y : Int) (tc tx ty : Tok) (news : List (Addr × Obj)) (hc : c = 96 ∨ c = 97 ∨ c = 98 ∨ c = 99 ∨ c = 139 ∨ c = 140) (h0 : c ≠ 98 ∨ y ≠ 0) (hx : -(2^31) ≤ x ∧ x ≤ 2^31) (hy : -(2^31) ≤ y ∧ y ≤ 2^31) : CbM w mean mg mb 534 40 1500 news [.int c tc, .int x tx, .int y ty] (fun n' r => n' = news ∧ ∃ t, r = .int (twoS c x y) t) := by
  refine CbM_mk ?_; intro dpY unY gdY cnY csY acY ccY clY ouY a0Y baY h0Y LY mY shY sgY sdY skY soY QY EY aB aF aX aN aT akY adY auY hret
  k_dflt cell_enter
  k_with_none
  k_with "cell_enter" => ((refine' enterM ?k1 ?k2 ?k3 ?k4 ?k5 ?kA ?kF ?kK ?k6 ?k7 ?k8 ?k9 ?kB ?_ ?c2 ?c3 ?c4 ?c5; (case kA => exact rfl); (case kF => exact rfl); (case kK => assumption); (case k1 => k_asm); (case k2 => k_asm); (case k3 => k_asm); (case k4 => k_asm); (case k5 => k_asm); (case k6 => k_is); (case k7 => k_is); (case k8 => first | ktr_room | k_room); (case k9 => first | exact BindsTo.of_eq rfl | exact binds_K (by k_in) rfl (by k_is) rfl rfl rfl); (case c5 => decide); (case kB => exact locs rfl); (case c2 => exact rfl); (case c3 => exact rfl); (case c4 => exact rfl); k_whole; intro mqzz gqzz Lqzz hqzz tqzz FGqzz Fqzz Nqzz Bqzz Xqzz Tqzz qkqzz ekqzz))
  k_with "storeName" => ((k_dflt (refine' storeL ?F ?N ?a ?b ?_; (case F => k_asm); (case N => k_asm); (case a => rfl); (case b => rfl); k_whole; intro mszz hszz tszz Fszz Nszz; (try k_sweep))))
  k_with "leaveF" => ((k_dflt (first | (refine' leaveF_ret ?k1 ?k2 ?_; (case k1 => k_asm); (case k2 => k_asm); k_whole) | (refine' leaveF_next ?k1 ?k2 ?_; (case k1 => k_asm); (case k2 => k_asm); k_whole)); intro kFlzz kNlzz; ground_anew kFlzz))
  k_with "ktr_room" => (((try dsimp only [depth_under_make, depth_under_kw, depth_in1, depth_deeper]); first | exact room1 (by assumption) (by decide) | exact room2 (by assumption) (by decide) | exact room0 (by assumption) | exact room3 (by assumption) (by decide) | exact room4 (by assumption) (by decide)))
  k_with "ktr_units" => (((try dsimp only [units_under_make, units_in1, units_deeper, Around.mark_units]); first | exact room1 (by assumption) (by decide) | exact room2 (by assumption) (by decide) | exact room0 (by assumption) | exact room3 (by assumption) (by decide) | exact room4 (by assumption) (by decide)))
  k_with "k_ne" => ((refine neN ?_; (try dsimp only); first | assumption | exact Ne.symm (by assumption) | exact Nat.ne_of_gt (by assumption) | exact Nat.ne_of_lt (by assumption) | exact neP1 (by assumption) | exact neP2 (by assumption) | exact neP3 (by assumption) | exact neP4 (by assumption) | exact neP5 (by assumption)))
  k_with "k_all" => (assumption)
  k_with "execs cons" => (((with_reducible show wpAny _ _ _ _ _ (PySem.Shared.mk _ _ _ (_ + 1) _)); refine genToks ?_; intro tk9zz))
  k_with "eval Constant int" => ((refine constG ?_; intro t9zz tk9zz))
  k_with "ke_room" => (ktr_units)
  k_with "k_room" => (((try simp only [depth_under_make, depth_under_kw, depth_in1]); ktr_room))
  k_with "binaryOp FloorDiv int int" => ((k_here; refine floordiv_int (by split <;> (first | lia | omega)) ?_ (Or.inl (noPyl (by split <;> (first | lia | omega))))))
  k_with "spliced" => first | ((with_reducible show wpAny _ _ (spliced (backTo _ (starEach [PySem.Expr.Name _ _] _))) _ _ _); k_dflt (refine' argsN ?hF ?h0 rfl rfl rfl ?_; (case hF => k_asm); (case h0 => exact rfl); k_whole)) | ((with_reducible show wpAny _ _ (spliced (backTo _ (starEach [PySem.Expr.Constant (Const.int _) _ _] _))) _ _ _); refine argsC ?_; intro t9 tk9) | ((with_reducible show wpAny _ _ (spliced (backTo _ (starEach [PySem.Expr.Name _ _, PySem.Expr.Name _ _] _))) _ _ _); k_dflt (refine' argsNN ?hF ?h0 ?h1 rfl rfl rfl rfl rfl ?_; (case hF => k_asm); (case h0 => exact rfl); (case h1 => exact rfl); k_whole)) | ((with_reducible show wpAny _ _ (spliced (backTo _ (starEach [PySem.Expr.Name _ _, PySem.Expr.Constant (Const.int _) _ _] _))) _ _ _); k_dflt (refine' argsNC ?hF ?h0 rfl rfl rfl ?_; (case hF => k_asm); (case h0 => exact rfl); k_whole); intro t9 tk9) | ((with_reducible show wpAny _ _ (spliced (backTo _ (starEach [PySem.Expr.Name _ _, PySem.Expr.Name _ _, PySem.Expr.Name _ _] _))) _ _ _); k_dflt (refine' argsNNN ?hF ?h0 ?h1 ?h2 rfl rfl rfl rfl rfl rfl rfl ?_; (case hF => k_asm); (case h0 => exact rfl); (case h1 => exact rfl); (case h2 => exact rfl); k_whole))
  k_with "isTrue Compare" => ((with_reducible show wpAny _ _ (isTrue (PySem.Expr.Compare (PySem.Expr.Name _ _) [_] [PySem.Expr.Constant (Const.int _) _ _] _) _ _) _ _ _); k_dflt (refine' tsNC ?hF ?h0 ?hc rfl rfl rfl ?_; (case hF => k_asm); (case h0 => exact rfl); (case hc => exact rfl); k_whole); intro tk9)
  k_with "execs cons" => first | ((with_reducible show wpAny _ _ _ _ _ (PySem.Shared.mk _ _ _ (_ + 1) _)); refine genToks ?_; intro tk9) | (refine consQ ?_; intro q9)
  k_with "flowQ" => first | (refine flow_next ?_) | (refine flow_ret ?_)
  k_with "isTrue Compare" => ((with_reducible show wpAny _ _ (isTrue (Expr.Compare (Expr.Name _ _) [CmpOp.In] [Expr.List _ _] _) _ _) _ _ _); k_dflt (refine' inT (b := ?zb) ?ze ?zh ?zF ?zN ?zm ?zk ?zx ?zd ?zl ?_; (case ze => (repeat' constructor)); (case zF => k_asm); (case zN => k_asm); (case zm => exact rfl); (case zh => first | assumption | exact rfl); (case zk => exact rfl); (case zx => exact rfl); (case zd => decide); (case zl => decide); k_whole; intro h9 tk9 F9 N9; (try k_sweep)))
  k_with "CompEnd" => ((k_dflt (rename News _ _ _ _ => kN; refine LCg.CompEnd.intro (by assumption) kN _ (fun p hp => hp) (by simp only [LCg.Off3]; assumption) (by first | lcg_src | assumption) ?_)))
  k_steps
  all_goals first
    | (exfalso; have := rl98 hc (by assumption) (by assumption) (by assumption); (first | lia | omega))
    | (rename News _ _ _ _ => kN
       refine hret _ _ _ _ (by k_asm) (kst_newsOf kN (by intro p hp; first | ((repeat' (first | exact hp | apply List.Mem.tail)); done) | simp [hp])) ⟨rfl, _, int_eq ?_⟩
       first
      | exact rl1 (by assumption)
      | exact rl2 (by assumption) (by assumption)
      | exact rl3 (by assumption) (by assumption)
      | exact rl4 (by assumption) (by assumption) (by assumption)
      | exact rl5 (by assumption) (by assumption)
      | exact rl6 (by assumption) (by assumption)
      | exact rl8 hc (by assumption) (by assumption) (by assumption) (by assumption) (by assumption)
      | exact rl9 hc (by assumption) (by assumption) (by assumption) (by assumption) (by assumption))
theorem reck_bad (x y : Int) (hy0 : y = 0) (tc tx ty : Tok) (news : List (Addr × Obj)) (hx : -(2^31) ≤ x ∧ x ≤ 2^31) : CbM w mean mg mb 534 40 1500 news [.int 98 tc, .int x tx, .int y ty] (fun n' r => n' = news ∧ r = .none) := by
  refine CbM_mk ?_; intro dpY unY gdY cnY csY acY ccY clY ouY a0Y baY h0Y LY mY shY sgY sdY skY soY QY EY aB aF aX aN aT akY adY auY hret
  k_dflt cell_enter
  k_with_none
  k_with "cell_enter" => ((refine' enterM ?k1 ?k2 ?k3 ?k4 ?k5 ?kA ?kF ?kK ?k6 ?k7 ?k8 ?k9 ?kB ?_ ?c2 ?c3 ?c4 ?c5; (case kA => exact rfl); (case kF => exact rfl); (case kK => assumption); (case k1 => k_asm); (case k2 => k_asm); (case k3 => k_asm); (case k4 => k_asm); (case k5 => k_asm); (case k6 => k_is); (case k7 => k_is); (case k8 => first | ktr_room | k_room); (case k9 => first | exact BindsTo.of_eq rfl | exact binds_K (by k_in) rfl (by k_is) rfl rfl rfl); (case c5 => decide); (case kB => exact locs rfl); (case c2 => exact rfl); (case c3 => exact rfl); (case c4 => exact rfl); k_whole; intro mqzz gqzz Lqzz hqzz tqzz FGqzz Fqzz Nqzz Bqzz Xqzz Tqzz qkqzz ekqzz))
  k_with "storeName" => ((k_dflt (refine' storeL ?F ?N ?a ?b ?_; (case F => k_asm); (case N => k_asm); (case a => rfl); (case b => rfl); k_whole; intro mszz hszz tszz Fszz Nszz; (try k_sweep))))
  k_with "leaveF" => ((k_dflt (first | (refine' leaveF_ret ?k1 ?k2 ?_; (case k1 => k_asm); (case k2 => k_asm); k_whole) | (refine' leaveF_next ?k1 ?k2 ?_; (case k1 => k_asm); (case k2 => k_asm); k_whole)); intro kFlzz kNlzz; ground_anew kFlzz))
  k_with "ktr_room" => (((try dsimp only [depth_under_make, depth_under_kw, depth_in1, depth_deeper]); first | exact room1 (by assumption) (by decide) | exact room2 (by assumption) (by decide) | exact room0 (by assumption) | exact room3 (by assumption) (by decide) | exact room4 (by assumption) (by decide)))
  k_with "ktr_units" => (((try dsimp only [units_under_make, units_in1, units_deeper, Around.mark_units]); first | exact room1 (by assumption) (by decide) | exact room2 (by assumption) (by decide) | exact room0 (by assumption) | exact room3 (by assumption) (by decide) | exact room4 (by assumption) (by decide)))
  k_with "k_ne" => ((refine neN ?_; (try dsimp only); first | assumption | exact Ne.symm (by assumption) | exact Nat.ne_of_gt (by assumption) | exact Nat.ne_of_lt (by assumption) | exact neP1 (by assumption) | exact neP2 (by assumption) | exact neP3 (by assumption) | exact neP4 (by assumption) | exact neP5 (by assumption)))
  k_with "k_all" => (assumption)
  k_with "execs cons" => (((with_reducible show wpAny _ _ _ _ _ (PySem.Shared.mk _ _ _ (_ + 1) _)); refine genToks ?_; intro tk9zz))
  k_with "eval Constant int" => ((refine constG ?_; intro t9zz tk9zz))
  k_with "ke_room" => (ktr_units)
  k_with "k_room" => (((try simp only [depth_under_make, depth_under_kw, depth_in1]); ktr_room))
  k_with "binaryOp FloorDiv int int" => ((k_here; refine floordiv_int (by split <;> (first | lia | omega)) ?_ (Or.inl (noPyl (by split <;> (first | lia | omega))))))
  k_with "spliced" => first | ((with_reducible show wpAny _ _ (spliced (backTo _ (starEach [PySem.Expr.Name _ _] _))) _ _ _); k_dflt (refine' argsN ?hF ?h0 rfl rfl rfl ?_; (case hF => k_asm); (case h0 => exact rfl); k_whole)) | ((with_reducible show wpAny _ _ (spliced (backTo _ (starEach [PySem.Expr.Constant (Const.int _) _ _] _))) _ _ _); refine argsC ?_; intro t9 tk9) | ((with_reducible show wpAny _ _ (spliced (backTo _ (starEach [PySem.Expr.Name _ _, PySem.Expr.Name _ _] _))) _ _ _); k_dflt (refine' argsNN ?hF ?h0 ?h1 rfl rfl rfl rfl rfl ?_; (case hF => k_asm); (case h0 => exact rfl); (case h1 => exact rfl); k_whole)) | ((with_reducible show wpAny _ _ (spliced (backTo _ (starEach [PySem.Expr.Name _ _, PySem.Expr.Constant (Const.int _) _ _] _))) _ _ _); k_dflt (refine' argsNC ?hF ?h0 rfl rfl rfl ?_; (case hF => k_asm); (case h0 => exact rfl); k_whole); intro t9 tk9) | ((with_reducible show wpAny _ _ (spliced (backTo _ (starEach [PySem.Expr.Name _ _, PySem.Expr.Name _ _, PySem.Expr.Name _ _] _))) _ _ _); k_dflt (refine' argsNNN ?hF ?h0 ?h1 ?h2 rfl rfl rfl rfl rfl rfl rfl ?_; (case hF => k_asm); (case h0 => exact rfl); (case h1 => exact rfl); (case h2 => exact rfl); k_whole))
  k_with "isTrue Compare" => ((with_reducible show wpAny _ _ (isTrue (PySem.Expr.Compare (PySem.Expr.Name _ _) [_] [PySem.Expr.Constant (Const.int _) _ _] _) _ _) _ _ _); k_dflt (refine' tsNC ?hF ?h0 ?hc rfl rfl rfl ?_; (case hF => k_asm); (case h0 => exact rfl); (case hc => exact rfl); k_whole); intro tk9)
  k_with "execs cons" => first | ((with_reducible show wpAny _ _ _ _ _ (PySem.Shared.mk _ _ _ (_ + 1) _)); refine genToks ?_; intro tk9) | (refine consQ ?_; intro q9)
  k_with "flowQ" => first | (refine flow_next ?_) | (refine flow_ret ?_)
  k_with "isTrue Compare" => ((with_reducible show wpAny _ _ (isTrue (Expr.Compare (Expr.Name _ _) [CmpOp.In] [Expr.List _ _] _) _ _) _ _ _); k_dflt (refine' inT (b := ?zb) ?ze ?zh ?zF ?zN ?zm ?zk ?zx ?zd ?zl ?_; (case ze => (repeat' constructor)); (case zF => k_asm); (case zN => k_asm); (case zm => exact rfl); (case zh => first | assumption | exact rfl); (case zk => exact rfl); (case zx => exact rfl); (case zd => decide); (case zl => decide); k_whole; intro h9 tk9 F9 N9; (try k_sweep)))
  k_with "CompEnd" => ((k_dflt (rename News _ _ _ _ => kN; refine LCg.CompEnd.intro (by assumption) kN _ (fun p hp => hp) (by simp only [LCg.Off3]; assumption) (by first | lcg_src | assumption) ?_)))
  k_steps
  all_goals first | (exfalso; (first | lia | omega)) | (rename News _ _ _ _ => kN; exact hret _ _ _ _ (by k_asm) (kst_newsOf kN (by intro p hp; first | ((repeat' (first | exact hp | apply List.Mem.tail)); done) | simp [hp])) ⟨rfl, rfl⟩)
theorem due_truth (c : Int) (hc : Tc c) (xs : List Int) (x y : Int) (hl : xs.length ≤ 6) : DueR w mean mg mb c (xs ++ [x] ++ [y]) (some (xs ++ [if comparedS c x y = true then 1 else 0])) := by
  intro tc S vs k news hv hS
  obtain ⟨us, hus⟩ : ∃ us, us = vs := ⟨_, rfl⟩
  have hl2 := hv.length
  have hm1 : Tn c [32, 34, 35, 36, 37, 38, 138] := by rcases hc with rfl | hc <;> first | decide | (rcases hc with rfl | hc <;> first | decide | (rcases hc with rfl | hc <;> first | decide | (rcases hc with rfl | hc <;> first | decide | (rcases hc with rfl | hc <;> first | decide | (rcases hc with rfl | rfl | rfl <;> decide)))))
  have hm2 : Tn c [92, 100, 101, 102, 103] := by rcases hc with rfl | hc <;> first | decide | (rcases hc with rfl | hc <;> first | decide | (rcases hc with rfl | hc <;> first | decide | (rcases hc with rfl | hc <;> first | decide | (rcases hc with rfl | hc <;> first | decide | (rcases hc with rfl | rfl | rfl <;> decide)))))
  refine twoE hv (fun zs hz hvN hlN hdec e1 e2 e3 hlz => ?_)
  clear hv hl2
  have hv := hvN
  have hl2 := hlN
  clear hvN hlN
  have hm3 : Ty c [80, 81, 82, 83, 84, 85, 90, 91] := by rcases hc with rfl | rfl | rfl | rfl | rfl | rfl | rfl | rfl <;> decide
  refine CbM_mk ?_; intro dpY unY gdY cnY csY acY ccY clY ouY a0Y baY h0Y LY mY shY sgY sdY skY soY QY EY aB aF aX aN aT akY adY auY hret
  k_dflt cell_enter
  k_with_none
  k_with "cell_enter" => ((refine' enterM ?k1 ?k2 ?k3 ?k4 ?k5 ?kA ?kF ?kK ?k6 ?k7 ?k8 ?k9 ?kB ?_ ?c2 ?c3 ?c4 ?c5; (case kA => exact rfl); (case kF => exact rfl); (case kK => assumption); (case k1 => k_asm); (case k2 => k_asm); (case k3 => k_asm); (case k4 => k_asm); (case k5 => k_asm); (case k6 => k_is); (case k7 => k_is); (case k8 => first | ktr_room | k_room); (case k9 => first | exact BindsTo.of_eq rfl | exact binds_K (by k_in) rfl (by k_is) rfl rfl rfl); (case c5 => decide); (case kB => exact locs rfl); (case c2 => exact rfl); (case c3 => exact rfl); (case c4 => exact rfl); k_whole; intro mqzz gqzz Lqzz hqzz tqzz FGqzz Fqzz Nqzz Bqzz Xqzz Tqzz qkqzz ekqzz))
  k_with "storeName" => ((k_dflt (refine' storeL ?F ?N ?a ?b ?_; (case F => k_asm); (case N => k_asm); (case a => rfl); (case b => rfl); k_whole; intro mszz hszz tszz Fszz Nszz; (try k_sweep))))
  k_with "leaveF" => ((k_dflt (first | (refine' leaveF_ret ?k1 ?k2 ?_; (case k1 => k_asm); (case k2 => k_asm); k_whole) | (refine' leaveF_next ?k1 ?k2 ?_; (case k1 => k_asm); (case k2 => k_asm); k_whole)); intro kFlzz kNlzz; ground_anew kFlzz))
  k_with "ktr_room" => (((try dsimp only [depth_under_make, depth_under_kw, depth_in1, depth_deeper]); first | exact room1 (by assumption) (by decide) | exact room2 (by assumption) (by decide) | exact room0 (by assumption) | exact room3 (by assumption) (by decide) | exact room4 (by assumption) (by decide)))
  k_with "ktr_units" => (((try dsimp only [units_under_make, units_in1, units_deeper, Around.mark_units]); first | exact room1 (by assumption) (by decide) | exact room2 (by assumption) (by decide) | exact room0 (by assumption) | exact room3 (by assumption) (by decide) | exact room4 (by assumption) (by decide)))
  k_with "k_ne" => ((refine neN ?_; (try dsimp only); first | assumption | exact Ne.symm (by assumption) | exact Nat.ne_of_gt (by assumption) | exact Nat.ne_of_lt (by assumption) | exact neP1 (by assumption) | exact neP2 (by assumption) | exact neP3 (by assumption) | exact neP4 (by assumption) | exact neP5 (by assumption)))
  k_with "k_all" => (assumption)
  k_with "execs cons" => (((with_reducible show wpAny _ _ _ _ _ (PySem.Shared.mk _ _ _ (_ + 1) _)); refine genToks ?_; intro tk9zz))
  k_with "eval Constant int" => ((refine constG ?_; intro t9zz tk9zz))
  k_with "ke_room" => (ktr_units)
  k_with "k_room" => (((try simp only [depth_under_make, depth_under_kw, depth_in1]); ktr_room))
  k_with "binaryOp FloorDiv int int" => ((k_here; refine floordiv_int (by split <;> (first | lia | omega)) ?_ (Or.inl (noPyl (by split <;> (first | lia | omega))))))
  k_with "spliced" => first | ((with_reducible show wpAny _ _ (spliced (backTo _ (starEach [PySem.Expr.Name _ _] _))) _ _ _); k_dflt (refine' argsN ?hF ?h0 rfl rfl rfl ?_; (case hF => k_asm); (case h0 => exact rfl); k_whole)) | ((with_reducible show wpAny _ _ (spliced (backTo _ (starEach [PySem.Expr.Constant (Const.int _) _ _] _))) _ _ _); refine argsC ?_; intro t9 tk9) | ((with_reducible show wpAny _ _ (spliced (backTo _ (starEach [PySem.Expr.Name _ _, PySem.Expr.Name _ _] _))) _ _ _); k_dflt (refine' argsNN ?hF ?h0 ?h1 rfl rfl rfl rfl rfl ?_; (case hF => k_asm); (case h0 => exact rfl); (case h1 => exact rfl); k_whole)) | ((with_reducible show wpAny _ _ (spliced (backTo _ (starEach [PySem.Expr.Name _ _, PySem.Expr.Constant (Const.int _) _ _] _))) _ _ _); k_dflt (refine' argsNC ?hF ?h0 rfl rfl rfl ?_; (case hF => k_asm); (case h0 => exact rfl); k_whole); intro t9 tk9) | ((with_reducible show wpAny _ _ (spliced (backTo _ (starEach [PySem.Expr.Name _ _, PySem.Expr.Name _ _, PySem.Expr.Name _ _] _))) _ _ _); k_dflt (refine' argsNNN ?hF ?h0 ?h1 ?h2 rfl rfl rfl rfl rfl rfl rfl ?_; (case hF => k_asm); (case h0 => exact rfl); (case h1 => exact rfl); (case h2 => exact rfl); k_whole))
  k_with "isTrue Compare" => ((with_reducible show wpAny _ _ (isTrue (PySem.Expr.Compare (PySem.Expr.Name _ _) [_] [PySem.Expr.Constant (Const.int _) _ _] _) _ _) _ _ _); k_dflt (refine' tsNC ?hF ?h0 ?hc rfl rfl rfl ?_; (case hF => k_asm); (case h0 => exact rfl); (case hc => exact rfl); k_whole); intro tk9)
  k_with "execs cons" => first | ((with_reducible show wpAny _ _ _ _ _ (PySem.Shared.mk _ _ _ (_ + 1) _)); refine genToks ?_; intro tk9) | (refine consQ ?_; intro q9)
  k_with "flowQ" => first | (refine flow_next ?_) | (refine flow_ret ?_)
  k_with "isTrue Compare" => ((with_reducible show wpAny _ _ (isTrue (Expr.Compare (Expr.Name _ _) [CmpOp.In] [Expr.List _ _] _) _ _) _ _ _); k_dflt (refine' inT (b := ?zb) ?ze ?zh ?zF ?zN ?zm ?zk ?zx ?zd ?zl ?_; (case ze => (repeat' constructor)); (case zF => k_asm); (case zN => k_asm); (case zm => exact rfl); (case zh => first | assumption | exact rfl); (case zk => exact rfl); (case zx => exact rfl); (case zd => decide); (case zl => decide); k_whole; intro h9 tk9 F9 N9; (try k_sweep)))
  k_with "call ref" => ((with_reducible show wpAny _ _ (call (Value.ref 527) _) _ _ _); (try dsimp only [List.nil_append, List.cons_append]); k_dflt (refine' useN (truth_c _ _ _ _ _ _ _ hc) ?uB ?uF ?uX ?uN ?uT ?uk ?ud ?uu ?_; (case uB => k_asm); (case uF => k_asm); (case uX => k_asm); (case uN => k_asm); (case uT => k_asm); (case uk => exact rfl); (case ud => ktr_room); (case uu => ktr_units); k_whole; intro h6 tk6 F6 N6))
  k_steps
  all_goals (
    rename News _ _ _ _ => kN
    rename IntsAre _ _ => kI
    simp only [e1, e2, e3] at kI
    refine hret _ (_ :: (S, _) :: news) _ _ (by k_asm) (kst_newsOf kN (due_sub ?_)) ⟨_, _, _, rfl, kI, rfl⟩
    intro p hp; first | exact hp | exact List.Mem.tail _ hp | exact List.Mem.tail _ (List.Mem.tail _ hp) | exact List.Mem.tail _ (List.Mem.tail _ (List.Mem.tail _ hp)) | exact List.Mem.tail _ (List.Mem.tail _ (List.Mem.tail _ (List.Mem.tail _ hp))) | exact List.Mem.tail _ (List.Mem.tail _ (List.Mem.tail _ (List.Mem.tail _ (List.Mem.tail _ hp)))) | exact List.Mem.tail _ (List.Mem.tail _ (List.Mem.tail _ (List.Mem.tail _ (List.Mem.tail _ (List.Mem.tail _ hp))))) | exact List.Mem.tail _ (List.Mem.tail _ (List.Mem.tail _ (List.Mem.tail _ (List.Mem.tail _ (List.Mem.tail _ (List.Mem.tail _ hp)))))) | exact List.Mem.tail _ (List.Mem.tail _ (List.Mem.tail _ (List.Mem.tail _ (List.Mem.tail _ (List.Mem.tail _ (List.Mem.tail _ (List.Mem.tail _ hp))))))) | (simp only [List.mem_cons] at hp ⊢; rcases hp with hp | hp <;> simp [hp]))
theorem held_c (n : Int) (tn : Tok) (news : List (Addr × Obj)) : CbM w mean mg mb 508 40 1500 news [.int n tn] (fun n' r => n' = news ∧ ∃ t, r = .int (wrap32S n) t) := by
  refine CbM_mk ?_; intro dpY unY gdY cnY csY acY ccY clY ouY a0Y baY h0Y LY mY shY sgY sdY skY soY QY EY aB aF aX aN aT akY adY auY hret
  k_dflt cell_enter
  k_with_none
  k_with "cell_enter" => ((refine' enterM ?k1 ?k2 ?k3 ?k4 ?k5 ?kA ?kF ?kK ?k6 ?k7 ?k8 ?k9 ?kB ?_ ?c2 ?c3 ?c4 ?c5; (case kA => exact rfl); (case kF => exact rfl); (case kK => assumption); (case k1 => k_asm); (case k2 => k_asm); (case k3 => k_asm); (case k4 => k_asm); (case k5 => k_asm); (case k6 => k_is); (case k7 => k_is); (case k8 => first | ktr_room | k_room); (case k9 => first | exact BindsTo.of_eq rfl | exact binds_K (by k_in) rfl (by k_is) rfl rfl rfl); (case c5 => decide); (case kB => exact locs rfl); (case c2 => exact rfl); (case c3 => exact rfl); (case c4 => exact rfl); k_whole; intro mqzz gqzz Lqzz hqzz tqzz FGqzz Fqzz Nqzz Bqzz Xqzz Tqzz qkqzz ekqzz))
  k_with "storeName" => ((k_dflt (refine' storeL ?F ?N ?a ?b ?_; (case F => k_asm); (case N => k_asm); (case a => rfl); (case b => rfl); k_whole; intro mszz hszz tszz Fszz Nszz; (try k_sweep))))
  k_with "leaveF" => ((k_dflt (first | (refine' leaveF_ret ?k1 ?k2 ?_; (case k1 => k_asm); (case k2 => k_asm); k_whole) | (refine' leaveF_next ?k1 ?k2 ?_; (case k1 => k_asm); (case k2 => k_asm); k_whole)); intro kFlzz kNlzz; ground_anew kFlzz))
  k_with "ktr_room" => (((try dsimp only [depth_under_make, depth_under_kw, depth_in1, depth_deeper]); first | exact room1 (by assumption) (by decide) | exact room2 (by assumption) (by decide) | exact room0 (by assumption) | exact room3 (by assumption) (by decide) | exact room4 (by assumption) (by decide)))
  k_with "ktr_units" => (((try dsimp only [units_under_make, units_in1, units_deeper, Around.mark_units]); first | exact room1 (by assumption) (by decide) | exact room2 (by assumption) (by decide) | exact room0 (by assumption) | exact room3 (by assumption) (by decide) | exact room4 (by assumption) (by decide)))
  k_with "k_ne" => ((refine neN ?_; (try dsimp only); first | assumption | exact Ne.symm (by assumption) | exact Nat.ne_of_gt (by assumption) | exact Nat.ne_of_lt (by assumption) | exact neP1 (by assumption) | exact neP2 (by assumption) | exact neP3 (by assumption) | exact neP4 (by assumption) | exact neP5 (by assumption)))
  k_with "k_all" => (assumption)
  k_with "execs cons" => (((with_reducible show wpAny _ _ _ _ _ (PySem.Shared.mk _ _ _ (_ + 1) _)); refine genToks ?_; intro tk9zz))
  k_with "eval Constant int" => ((refine constG ?_; intro t9zz tk9zz))
  k_with "ke_room" => (ktr_units)
  k_with "k_room" => (((try simp only [depth_under_make, depth_under_kw, depth_in1]); ktr_room))
  k_with "binaryOp FloorDiv int int" => ((k_here; refine floordiv_int (by split <;> (first | lia | omega)) ?_ (Or.inl (noPyl (by split <;> (first | lia | omega))))))
  k_with "spliced" => first | ((with_reducible show wpAny _ _ (spliced (backTo _ (starEach [PySem.Expr.Name _ _] _))) _ _ _); k_dflt (refine' argsN ?hF ?h0 rfl rfl rfl ?_; (case hF => k_asm); (case h0 => exact rfl); k_whole)) | ((with_reducible show wpAny _ _ (spliced (backTo _ (starEach [PySem.Expr.Constant (Const.int _) _ _] _))) _ _ _); refine argsC ?_; intro t9 tk9) | ((with_reducible show wpAny _ _ (spliced (backTo _ (starEach [PySem.Expr.Name _ _, PySem.Expr.Name _ _] _))) _ _ _); k_dflt (refine' argsNN ?hF ?h0 ?h1 rfl rfl rfl rfl rfl ?_; (case hF => k_asm); (case h0 => exact rfl); (case h1 => exact rfl); k_whole)) | ((with_reducible show wpAny _ _ (spliced (backTo _ (starEach [PySem.Expr.Name _ _, PySem.Expr.Constant (Const.int _) _ _] _))) _ _ _); k_dflt (refine' argsNC ?hF ?h0 rfl rfl rfl ?_; (case hF => k_asm); (case h0 => exact rfl); k_whole); intro t9 tk9) | ((with_reducible show wpAny _ _ (spliced (backTo _ (starEach [PySem.Expr.Name _ _, PySem.Expr.Name _ _, PySem.Expr.Name _ _] _))) _ _ _); k_dflt (refine' argsNNN ?hF ?h0 ?h1 ?h2 rfl rfl rfl rfl rfl rfl rfl ?_; (case hF => k_asm); (case h0 => exact rfl); (case h1 => exact rfl); (case h2 => exact rfl); k_whole))
  k_with "isTrue Compare" => ((with_reducible show wpAny _ _ (isTrue (PySem.Expr.Compare (PySem.Expr.Name _ _) [_] [PySem.Expr.Constant (Const.int _) _ _] _) _ _) _ _ _); k_dflt (refine' tsNC ?hF ?h0 ?hc rfl rfl rfl ?_; (case hF => k_asm); (case h0 => exact rfl); (case hc => exact rfl); k_whole); intro tk9)
  k_with "execs cons" => first | ((with_reducible show wpAny _ _ _ _ _ (PySem.Shared.mk _ _ _ (_ + 1) _)); refine genToks ?_; intro tk9) | (refine consQ ?_; intro q9)
  k_with "flowQ" => first | (refine flow_next ?_) | (refine flow_ret ?_)
  k_with "isTrue Compare" => ((with_reducible show wpAny _ _ (isTrue (Expr.Compare (Expr.Name _ _) [CmpOp.In] [Expr.List _ _] _) _ _) _ _ _); k_dflt (refine' inT (b := ?zb) ?ze ?zh ?zF ?zN ?zm ?zk ?zx ?zd ?zl ?_; (case ze => (repeat' constructor)); (case zF => k_asm); (case zN => k_asm); (case zm => exact rfl); (case zh => first | assumption | exact rfl); (case zk => exact rfl); (case zx => exact rfl); (case zd => decide); (case zl => decide); k_whole; intro h9 tk9 F9 N9; (try k_sweep)))
  k_with "CompEnd" => ((k_dflt (rename News _ _ _ _ => kN; refine LCg.CompEnd.intro (by assumption) kN _ (fun p hp => hp) (by simp only [LCg.Off3]; assumption) (by first | lcg_src | assumption) ?_)))
  k_steps
  all_goals (rename News _ _ _ _ => kN; refine hret _ _ _ _ (by k_asm) (kst_newsOf kN (by intro p hp; first | ((repeat' (first | exact hp | apply List.Mem.tail)); done) | simp [hp])) ⟨rfl, _, int_eq ?_⟩; first | exact held_t (by first | assumption | (first | lia | omega)) | exact held_f (by first | assumption | (first | lia | omega)))
theorem due_reck (c : Int) (hc : Rc c) (xs : List Int) (x y : Int) (hl : xs.length ≤ 6) (h0 : c ≠ 98 ∨ y ≠ 0) (hx : -(2^31) ≤ x ∧ x ≤ 2^31) (hy : -(2^31) ≤ y ∧ y ≤ 2^31) : DueR w mean mg mb c (xs ++ [x] ++ [y]) (some (xs ++ [wrap32S (twoS c x y)])) := by
  intro tc S vs k news hv hS
  have hl2 := hv.length
  have hm1 : Tn c [32, 34, 35, 36, 37, 38, 138] := by rcases hc with rfl | rfl | rfl | rfl | rfl | rfl <;> decide
  have hm2 : Tn c [92, 100, 101, 102, 103] := by rcases hc with rfl | rfl | rfl | rfl | rfl | rfl <;> decide
  have hm3 : Tn c [80, 81, 82, 83, 84, 85, 90, 91] := by rcases hc with rfl | rfl | rfl | rfl | rfl | rfl <;> decide
  refine twoE hv (fun zs hz hvN hlN hdec e1 e2 e3 hlz => ?_)
  clear hv hl2
  have hv := hvN
  have hl2 := hlN
  clear hvN hlN
  refine CbM_mk ?_; intro dpY unY gdY cnY csY acY ccY clY ouY a0Y baY h0Y LY mY shY sgY sdY skY soY QY EY aB aF aX aN aT akY adY auY hret
  k_dflt cell_enter
  k_with_none
  k_with "cell_enter" => ((refine' enterM ?k1 ?k2 ?k3 ?k4 ?k5 ?kA ?kF ?kK ?k6 ?k7 ?k8 ?k9 ?kB ?_ ?c2 ?c3 ?c4 ?c5; (case kA => exact rfl); (case kF => exact rfl); (case kK => assumption); (case k1 => k_asm); (case k2 => k_asm); (case k3 => k_asm); (case k4 => k_asm); (case k5 => k_asm); (case k6 => k_is); (case k7 => k_is); (case k8 => first | ktr_room | k_room); (case k9 => first | exact BindsTo.of_eq rfl | exact binds_K (by k_in) rfl (by k_is) rfl rfl rfl); (case c5 => decide); (case kB => exact locs rfl); (case c2 => exact rfl); (case c3 => exact rfl); (case c4 => exact rfl); k_whole; intro mqzz gqzz Lqzz hqzz tqzz FGqzz Fqzz Nqzz Bqzz Xqzz Tqzz qkqzz ekqzz))
  k_with "storeName" => ((k_dflt (refine' storeL ?F ?N ?a ?b ?_; (case F => k_asm); (case N => k_asm); (case a => rfl); (case b => rfl); k_whole; intro mszz hszz tszz Fszz Nszz; (try k_sweep))))
  k_with "leaveF" => ((k_dflt (first | (refine' leaveF_ret ?k1 ?k2 ?_; (case k1 => k_asm); (case k2 => k_asm); k_whole) | (refine' leaveF_next ?k1 ?k2 ?_; (case k1 => k_asm); (case k2 => k_asm); k_whole)); intro kFlzz kNlzz; ground_anew kFlzz))
  k_with "ktr_room" => (((try dsimp only [depth_under_make, depth_under_kw, depth_in1, depth_deeper]); first | exact room1 (by assumption) (by decide) | exact room2 (by assumption) (by decide) | exact room0 (by assumption) | exact room3 (by assumption) (by decide) | exact room4 (by assumption) (by decide)))
  k_with "ktr_units" => (((try dsimp only [units_under_make, units_in1, units_deeper, Around.mark_units]); first | exact room1 (by assumption) (by decide) | exact room2 (by assumption) (by decide) | exact room0 (by assumption) | exact room3 (by assumption) (by decide) | exact room4 (by assumption) (by decide)))
  k_with "k_ne" => ((refine neN ?_; (try dsimp only); first | assumption | exact Ne.symm (by assumption) | exact Nat.ne_of_gt (by assumption) | exact Nat.ne_of_lt (by assumption) | exact neP1 (by assumption) | exact neP2 (by assumption) | exact neP3 (by assumption) | exact neP4 (by assumption) | exact neP5 (by assumption)))
  k_with "k_all" => (assumption)
  k_with "execs cons" => (((with_reducible show wpAny _ _ _ _ _ (PySem.Shared.mk _ _ _ (_ + 1) _)); refine genToks ?_; intro tk9zz))
  k_with "eval Constant int" => ((refine constG ?_; intro t9zz tk9zz))
  k_with "ke_room" => (ktr_units)
  k_with "k_room" => (((try simp only [depth_under_make, depth_under_kw, depth_in1]); ktr_room))
  k_with "binaryOp FloorDiv int int" => ((k_here; refine floordiv_int (by split <;> (first | lia | omega)) ?_ (Or.inl (noPyl (by split <;> (first | lia | omega))))))
  k_with "spliced" => first | ((with_reducible show wpAny _ _ (spliced (backTo _ (starEach [PySem.Expr.Name _ _] _))) _ _ _); k_dflt (refine' argsN ?hF ?h0 rfl rfl rfl ?_; (case hF => k_asm); (case h0 => exact rfl); k_whole)) | ((with_reducible show wpAny _ _ (spliced (backTo _ (starEach [PySem.Expr.Constant (Const.int _) _ _] _))) _ _ _); refine argsC ?_; intro t9 tk9) | ((with_reducible show wpAny _ _ (spliced (backTo _ (starEach [PySem.Expr.Name _ _, PySem.Expr.Name _ _] _))) _ _ _); k_dflt (refine' argsNN ?hF ?h0 ?h1 rfl rfl rfl rfl rfl ?_; (case hF => k_asm); (case h0 => exact rfl); (case h1 => exact rfl); k_whole)) | ((with_reducible show wpAny _ _ (spliced (backTo _ (starEach [PySem.Expr.Name _ _, PySem.Expr.Constant (Const.int _) _ _] _))) _ _ _); k_dflt (refine' argsNC ?hF ?h0 rfl rfl rfl ?_; (case hF => k_asm); (case h0 => exact rfl); k_whole); intro t9 tk9) | ((with_reducible show wpAny _ _ (spliced (backTo _ (starEach [PySem.Expr.Name _ _, PySem.Expr.Name _ _, PySem.Expr.Name _ _] _))) _ _ _); k_dflt (refine' argsNNN ?hF ?h0 ?h1 ?h2 rfl rfl rfl rfl rfl rfl rfl ?_; (case hF => k_asm); (case h0 => exact rfl); (case h1 => exact rfl); (case h2 => exact rfl); k_whole))
  k_with "isTrue Compare" => ((with_reducible show wpAny _ _ (isTrue (PySem.Expr.Compare (PySem.Expr.Name _ _) [_] [PySem.Expr.Constant (Const.int _) _ _] _) _ _) _ _ _); k_dflt (refine' tsNC ?hF ?h0 ?hc rfl rfl rfl ?_; (case hF => k_asm); (case h0 => exact rfl); (case hc => exact rfl); k_whole); intro tk9)
  k_with "execs cons" => first | ((with_reducible show wpAny _ _ _ _ _ (PySem.Shared.mk _ _ _ (_ + 1) _)); refine genToks ?_; intro tk9) | (refine consQ ?_; intro q9)
  k_with "flowQ" => first | (refine flow_next ?_) | (refine flow_ret ?_)
  k_with "isTrue Compare" => ((with_reducible show wpAny _ _ (isTrue (Expr.Compare (Expr.Name _ _) [CmpOp.In] [Expr.List _ _] _) _ _) _ _ _); k_dflt (refine' inT (b := ?zb) ?ze ?zh ?zF ?zN ?zm ?zk ?zx ?zd ?zl ?_; (case ze => (repeat' constructor)); (case zF => k_asm); (case zN => k_asm); (case zm => exact rfl); (case zh => first | assumption | exact rfl); (case zk => exact rfl); (case zx => exact rfl); (case zd => decide); (case zl => decide); k_whole; intro h9 tk9 F9 N9; (try k_sweep)))
  k_with "call ref" => first
    | ((with_reducible show wpAny _ _ (call (Value.ref 534) _) _ _ _); (try dsimp only [List.nil_append, List.cons_append]); k_dflt (refine' useV (g := fun t => Value.int _ t) (reck_c c _ _ _ _ _ _ hc (by (first | lia | omega)) (by (first | lia | omega)) (by (first | lia | omega))) ?uB ?uF ?uX ?uN ?uT ?uk ?ud ?uu ?_; (case uB => k_asm); (case uF => k_asm); (case uX => k_asm); (case uN => k_asm); (case uT => k_asm); (case uk => exact rfl); (case ud => ktr_room); (case uu => ktr_units); k_whole; intro t6 h6 tk6 F6 N6))
    | ((with_reducible show wpAny _ _ (call (Value.ref 508) _) _ _ _); (try dsimp only [List.nil_append, List.cons_append]); k_dflt (refine' useV (g := fun t => Value.int _ t) (held_c _ _ _) ?uB ?uF ?uX ?uN ?uT ?uk ?ud ?uu ?_; (case uB => k_asm); (case uF => k_asm); (case uX => k_asm); (case uN => k_asm); (case uT => k_asm); (case uk => exact rfl); (case ud => ktr_room); (case uu => ktr_units); k_whole; intro t6 h6 tk6 F6 N6))
  k_steps
  all_goals (
    rename News _ _ _ _ => kN
    rename IntsAre _ _ => kI
    simp only [e1, e2, e3] at kI
    refine hret _ (_ :: (S, _) :: news) _ _ (by k_asm) (kst_newsOf kN (due_sub ?_)) ⟨_, _, _, rfl, kI, rfl⟩
    intro p hp; first | exact hp | exact List.Mem.tail _ hp | exact List.Mem.tail _ (List.Mem.tail _ hp) | exact List.Mem.tail _ (List.Mem.tail _ (List.Mem.tail _ hp)) | exact List.Mem.tail _ (List.Mem.tail _ (List.Mem.tail _ (List.Mem.tail _ hp))) | exact List.Mem.tail _ (List.Mem.tail _ (List.Mem.tail _ (List.Mem.tail _ (List.Mem.tail _ hp)))) | exact List.Mem.tail _ (List.Mem.tail _ (List.Mem.tail _ (List.Mem.tail _ (List.Mem.tail _ (List.Mem.tail _ hp))))) | exact List.Mem.tail _ (List.Mem.tail _ (List.Mem.tail _ (List.Mem.tail _ (List.Mem.tail _ (List.Mem.tail _ (List.Mem.tail _ hp)))))) | exact List.Mem.tail _ (List.Mem.tail _ (List.Mem.tail _ (List.Mem.tail _ (List.Mem.tail _ (List.Mem.tail _ (List.Mem.tail _ (List.Mem.tail _ hp))))))) | (simp only [List.mem_cons] at hp ⊢; rcases hp with hp | hp <;> simp [hp]))
theorem due_reck_bad (xs : List Int) (x y : Int) (hy0 : y = 0) (hl : xs.length ≤ 6) (hx : -(2^31) ≤ x ∧ x ≤ 2^31) : DueR w mean mg mb 98 (xs ++ [x] ++ [y]) none := by
  intro tc S vs k news hv hS
  have hl2 := hv.length
  have hm1 : Tn 98 [32, 34, 35, 36, 37, 38, 138] := by decide
  have hm2 : Tn 98 [92, 100, 101, 102, 103] := by decide
  have hm3 : Tn 98 [80, 81, 82, 83, 84, 85, 90, 91] := by decide
  refine twoE hv (fun zs hz hvN hlN hdec e1 e2 e3 hlz => ?_)
  clear hv hl2
  have hv := hvN
  have hl2 := hlN
  clear hvN hlN
  refine CbM_mk ?_; intro dpY unY gdY cnY csY acY ccY clY ouY a0Y baY h0Y LY mY shY sgY sdY skY soY QY EY aB aF aX aN aT akY adY auY hret
  k_dflt cell_enter
  k_with_none
  k_with "cell_enter" => ((refine' enterM ?k1 ?k2 ?k3 ?k4 ?k5 ?kA ?kF ?kK ?k6 ?k7 ?k8 ?k9 ?kB ?_ ?c2 ?c3 ?c4 ?c5; (case kA => exact rfl); (case kF => exact rfl); (case kK => assumption); (case k1 => k_asm); (case k2 => k_asm); (case k3 => k_asm); (case k4 => k_asm); (case k5 => k_asm); (case k6 => k_is); (case k7 => k_is); (case k8 => first | ktr_room | k_room); (case k9 => first | exact BindsTo.of_eq rfl | exact binds_K (by k_in) rfl (by k_is) rfl rfl rfl); (case c5 => decide); (case kB => exact locs rfl); (case c2 => exact rfl); (case c3 => exact rfl); (case c4 => exact rfl); k_whole; intro mqzz gqzz Lqzz hqzz tqzz FGqzz Fqzz Nqzz Bqzz Xqzz Tqzz qkqzz ekqzz))
  k_with "storeName" => ((k_dflt (refine' storeL ?F ?N ?a ?b ?_; (case F => k_asm); (case N => k_asm); (case a => rfl); (case b => rfl); k_whole; intro mszz hszz tszz Fszz Nszz; (try k_sweep))))
  k_with "leaveF" => ((k_dflt (first | (refine' leaveF_ret ?k1 ?k2 ?_; (case k1 => k_asm); (case k2 => k_asm); k_whole) | (refine' leaveF_next ?k1 ?k2 ?_; (case k1 => k_asm); (case k2 => k_asm); k_whole)); intro kFlzz kNlzz; ground_anew kFlzz))
  k_with "ktr_room" => (((try dsimp only [depth_under_make, depth_under_kw, depth_in1, depth_deeper]); first | exact room1 (by assumption) (by decide) | exact room2 (by assumption) (by decide) | exact room0 (by assumption) | exact room3 (by assumption) (by decide) | exact room4 (by assumption) (by decide)))
  k_with "ktr_units" => (((try dsimp only [units_under_make, units_in1, units_deeper, Around.mark_units]); first | exact room1 (by assumption) (by decide) | exact room2 (by assumption) (by decide) | exact room0 (by assumption) | exact room3 (by assumption) (by decide) | exact room4 (by assumption) (by decide)))
  k_with "k_ne" => ((refine neN ?_; (try dsimp only); first | assumption | exact Ne.symm (by assumption) | exact Nat.ne_of_gt (by assumption) | exact Nat.ne_of_lt (by assumption) | exact neP1 (by assumption) | exact neP2 (by assumption) | exact neP3 (by assumption) | exact neP4 (by assumption) | exact neP5 (by assumption)))
  k_with "k_all" => (assumption)
  k_with "execs cons" => (((with_reducible show wpAny _ _ _ _ _ (PySem.Shared.mk _ _ _ (_ + 1) _)); refine genToks ?_; intro tk9zz))
  k_with "eval Constant int" => ((refine constG ?_; intro t9zz tk9zz))
  k_with "ke_room" => (ktr_units)
  k_with "k_room" => (((try simp only [depth_under_make, depth_under_kw, depth_in1]); ktr_room))
  k_with "binaryOp FloorDiv int int" => ((k_here; refine floordiv_int (by split <;> (first | lia | omega)) ?_ (Or.inl (noPyl (by split <;> (first | lia | omega))))))
  k_with "spliced" => first | ((with_reducible show wpAny _ _ (spliced (backTo _ (starEach [PySem.Expr.Name _ _] _))) _ _ _); k_dflt (refine' argsN ?hF ?h0 rfl rfl rfl ?_; (case hF => k_asm); (case h0 => exact rfl); k_whole)) | ((with_reducible show wpAny _ _ (spliced (backTo _ (starEach [PySem.Expr.Constant (Const.int _) _ _] _))) _ _ _); refine argsC ?_; intro t9 tk9) | ((with_reducible show wpAny _ _ (spliced (backTo _ (starEach [PySem.Expr.Name _ _, PySem.Expr.Name _ _] _))) _ _ _); k_dflt (refine' argsNN ?hF ?h0 ?h1 rfl rfl rfl rfl rfl ?_; (case hF => k_asm); (case h0 => exact rfl); (case h1 => exact rfl); k_whole)) | ((with_reducible show wpAny _ _ (spliced (backTo _ (starEach [PySem.Expr.Name _ _, PySem.Expr.Constant (Const.int _) _ _] _))) _ _ _); k_dflt (refine' argsNC ?hF ?h0 rfl rfl rfl ?_; (case hF => k_asm); (case h0 => exact rfl); k_whole); intro t9 tk9) | ((with_reducible show wpAny _ _ (spliced (backTo _ (starEach [PySem.Expr.Name _ _, PySem.Expr.Name _ _, PySem.Expr.Name _ _] _))) _ _ _); k_dflt (refine' argsNNN ?hF ?h0 ?h1 ?h2 rfl rfl rfl rfl rfl rfl rfl ?_; (case hF => k_asm); (case h0 => exact rfl); (case h1 => exact rfl); (case h2 => exact rfl); k_whole))
  k_with "isTrue Compare" => ((with_reducible show wpAny _ _ (isTrue (PySem.Expr.Compare (PySem.Expr.Name _ _) [_] [PySem.Expr.Constant (Const.int _) _ _] _) _ _) _ _ _); k_dflt (refine' tsNC ?hF ?h0 ?hc rfl rfl rfl ?_; (case hF => k_asm); (case h0 => exact rfl); (case hc => exact rfl); k_whole); intro tk9)
  k_with "execs cons" => first | ((with_reducible show wpAny _ _ _ _ _ (PySem.Shared.mk _ _ _ (_ + 1) _)); refine genToks ?_; intro tk9) | (refine consQ ?_; intro q9)
  k_with "flowQ" => first | (refine flow_next ?_) | (refine flow_ret ?_)
  k_with "isTrue Compare" => ((with_reducible show wpAny _ _ (isTrue (Expr.Compare (Expr.Name _ _) [CmpOp.In] [Expr.List _ _] _) _ _) _ _ _); k_dflt (refine' inT (b := ?zb) ?ze ?zh ?zF ?zN ?zm ?zk ?zx ?zd ?zl ?_; (case ze => (repeat' constructor)); (case zF => k_asm); (case zN => k_asm); (case zm => exact rfl); (case zh => first | assumption | exact rfl); (case zk => exact rfl); (case zx => exact rfl); (case zd => decide); (case zl => decide); k_whole; intro h9 tk9 F9 N9; (try k_sweep)))
  k_with "call ref" => first
    | ((with_reducible show wpAny _ _ (call (Value.ref 534) _) _ _ _); (try dsimp only [List.nil_append, List.cons_append]); k_dflt (refine' useN (reck_bad _ _ (by (first | lia | omega)) _ _ _ _ (by (first | lia | omega))) ?uB ?uF ?uX ?uN ?uT ?uk ?ud ?uu ?_; (case uB => k_asm); (case uF => k_asm); (case uX => k_asm); (case uN => k_asm); (case uT => k_asm); (case uk => exact rfl); (case ud => ktr_room); (case uu => ktr_units); k_whole; intro h6 tk6 F6 N6))
  k_steps
  all_goals (rename News _ _ _ _ => kN)
  all_goals exact hret _ _ _ _ (by k_asm) (kst_newsOf kN (by intro p hp; first | exact hp | exact List.Mem.tail _ hp | exact List.Mem.tail _ (List.Mem.tail _ hp) | exact List.Mem.tail _ (List.Mem.tail _ (List.Mem.tail _ hp)) | exact List.Mem.tail _ (List.Mem.tail _ (List.Mem.tail _ (List.Mem.tail _ hp))) | exact List.Mem.tail _ (List.Mem.tail _ (List.Mem.tail _ (List.Mem.tail _ (List.Mem.tail _ hp)))) | exact List.Mem.tail _ (List.Mem.tail _ (List.Mem.tail _ (List.Mem.tail _ (List.Mem.tail _ (List.Mem.tail _ hp))))) | exact List.Mem.tail _ (List.Mem.tail _ (List.Mem.tail _ (List.Mem.tail _ (List.Mem.tail _ (List.Mem.tail _ (List.Mem.tail _ hp)))))) | exact List.Mem.tail _ (List.Mem.tail _ (List.Mem.tail _ (List.Mem.tail _ (List.Mem.tail _ (List.Mem.tail _ (List.Mem.tail _ (List.Mem.tail _ hp))))))) | (simp only [List.mem_cons] at hp ⊢; rcases hp with hp | hp <;> simp [hp]))) ⟨rfl, rfl⟩
theorem due_short (c : Int) (hm1 : Tn c [32, 34, 35, 36, 37, 38, 138]) (hm2 : Tn c [92, 100, 101, 102, 103]) (xs : List Int) (hl : xs.length < 2) : DueR w mean mg mb c xs none := by
  intro tc S vs k news hv hS
  have hl2 := hv.length
  refine CbM_mk ?_; intro dpY unY gdY cnY csY acY ccY clY ouY a0Y baY h0Y LY mY shY sgY sdY skY soY QY EY aB aF aX aN aT akY adY auY hret
  k_dflt cell_enter
  k_with_none
  k_with "cell_enter" => ((refine' enterM ?k1 ?k2 ?k3 ?k4 ?k5 ?kA ?kF ?kK ?k6 ?k7 ?k8 ?k9 ?kB ?_ ?c2 ?c3 ?c4 ?c5; (case kA => exact rfl); (case kF => exact rfl); (case kK => assumption); (case k1 => k_asm); (case k2 => k_asm); (case k3 => k_asm); (case k4 => k_asm); (case k5 => k_asm); (case k6 => k_is); (case k7 => k_is); (case k8 => first | ktr_room | k_room); (case k9 => first | exact BindsTo.of_eq rfl | exact binds_K (by k_in) rfl (by k_is) rfl rfl rfl); (case c5 => decide); (case kB => exact locs rfl); (case c2 => exact rfl); (case c3 => exact rfl); (case c4 => exact rfl); k_whole; intro mqzz gqzz Lqzz hqzz tqzz FGqzz Fqzz Nqzz Bqzz Xqzz Tqzz qkqzz ekqzz))
  k_with "storeName" => ((k_dflt (refine' storeL ?F ?N ?a ?b ?_; (case F => k_asm); (case N => k_asm); (case a => rfl); (case b => rfl); k_whole; intro mszz hszz tszz Fszz Nszz; (try k_sweep))))
  k_with "leaveF" => ((k_dflt (first | (refine' leaveF_ret ?k1 ?k2 ?_; (case k1 => k_asm); (case k2 => k_asm); k_whole) | (refine' leaveF_next ?k1 ?k2 ?_; (case k1 => k_asm); (case k2 => k_asm); k_whole)); intro kFlzz kNlzz; ground_anew kFlzz))
  k_with "ktr_room" => (((try dsimp only [depth_under_make, depth_under_kw, depth_in1, depth_deeper]); first | exact room1 (by assumption) (by decide) | exact room2 (by assumption) (by decide) | exact room0 (by assumption) | exact room3 (by assumption) (by decide) | exact room4 (by assumption) (by decide)))
  k_with "ktr_units" => (((try dsimp only [units_under_make, units_in1, units_deeper, Around.mark_units]); first | exact room1 (by assumption) (by decide) | exact room2 (by assumption) (by decide) | exact room0 (by assumption) | exact room3 (by assumption) (by decide) | exact room4 (by assumption) (by decide)))
  k_with "k_ne" => ((refine neN ?_; (try dsimp only); first | assumption | exact Ne.symm (by assumption) | exact Nat.ne_of_gt (by assumption) | exact Nat.ne_of_lt (by assumption) | exact neP1 (by assumption) | exact neP2 (by assumption) | exact neP3 (by assumption) | exact neP4 (by assumption) | exact neP5 (by assumption)))
  k_with "k_all" => (assumption)
  k_with "execs cons" => (((with_reducible show wpAny _ _ _ _ _ (PySem.Shared.mk _ _ _ (_ + 1) _)); refine genToks ?_; intro tk9zz))
  k_with "eval Constant int" => ((refine constG ?_; intro t9zz tk9zz))
  k_with "ke_room" => (ktr_units)
  k_with "k_room" => (((try simp only [depth_under_make, depth_under_kw, depth_in1]); ktr_room))
  k_with "binaryOp FloorDiv int int" => ((k_here; refine floordiv_int (by split <;> (first | lia | omega)) ?_ (Or.inl (noPyl (by split <;> (first | lia | omega))))))
  k_with "spliced" => first | ((with_reducible show wpAny _ _ (spliced (backTo _ (starEach [PySem.Expr.Name _ _] _))) _ _ _); k_dflt (refine' argsN ?hF ?h0 rfl rfl rfl ?_; (case hF => k_asm); (case h0 => exact rfl); k_whole)) | ((with_reducible show wpAny _ _ (spliced (backTo _ (starEach [PySem.Expr.Constant (Const.int _) _ _] _))) _ _ _); refine argsC ?_; intro t9 tk9) | ((with_reducible show wpAny _ _ (spliced (backTo _ (starEach [PySem.Expr.Name _ _, PySem.Expr.Name _ _] _))) _ _ _); k_dflt (refine' argsNN ?hF ?h0 ?h1 rfl rfl rfl rfl rfl ?_; (case hF => k_asm); (case h0 => exact rfl); (case h1 => exact rfl); k_whole)) | ((with_reducible show wpAny _ _ (spliced (backTo _ (starEach [PySem.Expr.Name _ _, PySem.Expr.Constant (Const.int _) _ _] _))) _ _ _); k_dflt (refine' argsNC ?hF ?h0 rfl rfl rfl ?_; (case hF => k_asm); (case h0 => exact rfl); k_whole); intro t9 tk9) | ((with_reducible show wpAny _ _ (spliced (backTo _ (starEach [PySem.Expr.Name _ _, PySem.Expr.Name _ _, PySem.Expr.Name _ _] _))) _ _ _); k_dflt (refine' argsNNN ?hF ?h0 ?h1 ?h2 rfl rfl rfl rfl rfl rfl rfl ?_; (case hF => k_asm); (case h0 => exact rfl); (case h1 => exact rfl); (case h2 => exact rfl); k_whole))
  k_with "isTrue Compare" => ((with_reducible show wpAny _ _ (isTrue (PySem.Expr.Compare (PySem.Expr.Name _ _) [_] [PySem.Expr.Constant (Const.int _) _ _] _) _ _) _ _ _); k_dflt (refine' tsNC ?hF ?h0 ?hc rfl rfl rfl ?_; (case hF => k_asm); (case h0 => exact rfl); (case hc => exact rfl); k_whole); intro tk9)
  k_with "execs cons" => first | ((with_reducible show wpAny _ _ _ _ _ (PySem.Shared.mk _ _ _ (_ + 1) _)); refine genToks ?_; intro tk9) | (refine consQ ?_; intro q9)
  k_with "flowQ" => first | (refine flow_next ?_) | (refine flow_ret ?_)
  k_with "isTrue Compare" => ((with_reducible show wpAny _ _ (isTrue (Expr.Compare (Expr.Name _ _) [CmpOp.In] [Expr.List _ _] _) _ _) _ _ _); k_dflt (refine' inT (b := ?zb) ?ze ?zh ?zF ?zN ?zm ?zk ?zx ?zd ?zl ?_; (case ze => (repeat' constructor)); (case zF => k_asm); (case zN => k_asm); (case zm => exact rfl); (case zh => first | assumption | exact rfl); (case zk => exact rfl); (case zx => exact rfl); (case zd => decide); (case zl => decide); k_whole; intro h9 tk9 F9 N9; (try k_sweep)))
  k_steps
  all_goals (rename News _ _ _ _ => kN)
  all_goals exact hret _ _ _ _ (by k_asm) (kst_newsOf kN (by intro p hp; first | exact hp | exact List.Mem.tail _ hp | exact List.Mem.tail _ (List.Mem.tail _ hp) | exact List.Mem.tail _ (List.Mem.tail _ (List.Mem.tail _ hp)) | exact List.Mem.tail _ (List.Mem.tail _ (List.Mem.tail _ (List.Mem.tail _ hp))) | exact List.Mem.tail _ (List.Mem.tail _ (List.Mem.tail _ (List.Mem.tail _ (List.Mem.tail _ hp)))) | exact List.Mem.tail _ (List.Mem.tail _ (List.Mem.tail _ (List.Mem.tail _ (List.Mem.tail _ (List.Mem.tail _ hp))))) | exact List.Mem.tail _ (List.Mem.tail _ (List.Mem.tail _ (List.Mem.tail _ (List.Mem.tail _ (List.Mem.tail _ (List.Mem.tail _ hp)))))) | exact List.Mem.tail _ (List.Mem.tail _ (List.Mem.tail _ (List.Mem.tail _ (List.Mem.tail _ (List.Mem.tail _ (List.Mem.tail _ (List.Mem.tail _ hp))))))) | (simp only [List.mem_cons] at hp ⊢; rcases hp with hp | hp <;> simp [hp]))) ⟨rfl, rfl⟩
theorem due92_ok (xs : List Int) (y : Int) (hl : xs.length ≤ 7) (hy : -(2^31) ≤ y ∧ y ≤ 2^31) : DueR w mean mg mb 92 (xs ++ [y]) (some (xs ++ [if y = 0 then 1 else 0])) := by
  intro tc S vs k news hv hS
  have hl2 := hv.length
  refine oneE hv (fun zs hz hvN hlN hdec e2 e3 hlz => ?_)
  clear hv hl2
  have hv := hvN
  have hl2 := hlN
  clear hvN hlN
  refine CbM_mk ?_; intro dpY unY gdY cnY csY acY ccY clY ouY a0Y baY h0Y LY mY shY sgY sdY skY soY QY EY aB aF aX aN aT akY adY auY hret
  k_dflt cell_enter
  k_with_none
  k_with "cell_enter" => ((refine' enterM ?k1 ?k2 ?k3 ?k4 ?k5 ?kA ?kF ?kK ?k6 ?k7 ?k8 ?k9 ?kB ?_ ?c2 ?c3 ?c4 ?c5; (case kA => exact rfl); (case kF => exact rfl); (case kK => assumption); (case k1 => k_asm); (case k2 => k_asm); (case k3 => k_asm); (case k4 => k_asm); (case k5 => k_asm); (case k6 => k_is); (case k7 => k_is); (case k8 => first | ktr_room | k_room); (case k9 => first | exact BindsTo.of_eq rfl | exact binds_K (by k_in) rfl (by k_is) rfl rfl rfl); (case c5 => decide); (case kB => exact locs rfl); (case c2 => exact rfl); (case c3 => exact rfl); (case c4 => exact rfl); k_whole; intro mqzz gqzz Lqzz hqzz tqzz FGqzz Fqzz Nqzz Bqzz Xqzz Tqzz qkqzz ekqzz))
  k_with "storeName" => ((k_dflt (refine' storeL ?F ?N ?a ?b ?_; (case F => k_asm); (case N => k_asm); (case a => rfl); (case b => rfl); k_whole; intro mszz hszz tszz Fszz Nszz; (try k_sweep))))
  k_with "leaveF" => ((k_dflt (first | (refine' leaveF_ret ?k1 ?k2 ?_; (case k1 => k_asm); (case k2 => k_asm); k_whole) | (refine' leaveF_next ?k1 ?k2 ?_; (case k1 => k_asm); (case k2 => k_asm); k_whole)); intro kFlzz kNlzz; ground_anew kFlzz))
  k_with "ktr_room" => (((try dsimp only [depth_under_make, depth_under_kw, depth_in1, depth_deeper]); first | exact room1 (by assumption) (by decide) | exact room2 (by assumption) (by decide) | exact room0 (by assumption) | exact room3 (by assumption) (by decide) | exact room4 (by assumption) (by decide)))
  k_with "ktr_units" => (((try dsimp only [units_under_make, units_in1, units_deeper, Around.mark_units]); first | exact room1 (by assumption) (by decide) | exact room2 (by assumption) (by decide) | exact room0 (by assumption) | exact room3 (by assumption) (by decide) | exact room4 (by assumption) (by decide)))
  k_with "k_ne" => ((refine neN ?_; (try dsimp only); first | assumption | exact Ne.symm (by assumption) | exact Nat.ne_of_gt (by assumption) | exact Nat.ne_of_lt (by assumption) | exact neP1 (by assumption) | exact neP2 (by assumption) | exact neP3 (by assumption) | exact neP4 (by assumption) | exact neP5 (by assumption)))
  k_with "k_all" => (assumption)
  k_with "execs cons" => (((with_reducible show wpAny _ _ _ _ _ (PySem.Shared.mk _ _ _ (_ + 1) _)); refine genToks ?_; intro tk9zz))
  k_with "eval Constant int" => ((refine constG ?_; intro t9zz tk9zz))
  k_with "ke_room" => (ktr_units)
  k_with "k_room" => (((try simp only [depth_under_make, depth_under_kw, depth_in1]); ktr_room))
  k_with "binaryOp FloorDiv int int" => ((k_here; refine floordiv_int (by split <;> (first | lia | omega)) ?_ (Or.inl (noPyl (by split <;> (first | lia | omega))))))
  k_with "spliced" => first | ((with_reducible show wpAny _ _ (spliced (backTo _ (starEach [PySem.Expr.Name _ _] _))) _ _ _); k_dflt (refine' argsN ?hF ?h0 rfl rfl rfl ?_; (case hF => k_asm); (case h0 => exact rfl); k_whole)) | ((with_reducible show wpAny _ _ (spliced (backTo _ (starEach [PySem.Expr.Constant (Const.int _) _ _] _))) _ _ _); refine argsC ?_; intro t9 tk9) | ((with_reducible show wpAny _ _ (spliced (backTo _ (starEach [PySem.Expr.Name _ _, PySem.Expr.Name _ _] _))) _ _ _); k_dflt (refine' argsNN ?hF ?h0 ?h1 rfl rfl rfl rfl rfl ?_; (case hF => k_asm); (case h0 => exact rfl); (case h1 => exact rfl); k_whole)) | ((with_reducible show wpAny _ _ (spliced (backTo _ (starEach [PySem.Expr.Name _ _, PySem.Expr.Constant (Const.int _) _ _] _))) _ _ _); k_dflt (refine' argsNC ?hF ?h0 rfl rfl rfl ?_; (case hF => k_asm); (case h0 => exact rfl); k_whole); intro t9 tk9) | ((with_reducible show wpAny _ _ (spliced (backTo _ (starEach [PySem.Expr.Name _ _, PySem.Expr.Name _ _, PySem.Expr.Name _ _] _))) _ _ _); k_dflt (refine' argsNNN ?hF ?h0 ?h1 ?h2 rfl rfl rfl rfl rfl rfl rfl ?_; (case hF => k_asm); (case h0 => exact rfl); (case h1 => exact rfl); (case h2 => exact rfl); k_whole))
  k_with "isTrue Compare" => ((with_reducible show wpAny _ _ (isTrue (PySem.Expr.Compare (PySem.Expr.Name _ _) [_] [PySem.Expr.Constant (Const.int _) _ _] _) _ _) _ _ _); k_dflt (refine' tsNC ?hF ?h0 ?hc rfl rfl rfl ?_; (case hF => k_asm); (case h0 => exact rfl); (case hc => exact rfl); k_whole); intro tk9)
  k_with "execs cons" => first | ((with_reducible show wpAny _ _ _ _ _ (PySem.Shared.mk _ _ _ (_ + 1) _)); refine genToks ?_; intro tk9) | (refine consQ ?_; intro q9)
  k_with "flowQ" => first | (refine flow_next ?_) | (refine flow_ret ?_)
  k_with "isTrue Compare" => ((with_reducible show wpAny _ _ (isTrue (Expr.Compare (Expr.Name _ _) [CmpOp.In] [Expr.List _ _] _) _ _) _ _ _); k_dflt (refine' inT (b := ?zb) ?ze ?zh ?zF ?zN ?zm ?zk ?zx ?zd ?zl ?_; (case ze => (repeat' constructor)); (case zF => k_asm); (case zN => k_asm); (case zm => exact rfl); (case zh => first | assumption | exact rfl); (case zk => exact rfl); (case zx => exact rfl); (case zd => decide); (case zl => decide); k_whole; intro h9 tk9 F9 N9; (try k_sweep)))
  k_with "call ref" => first
    | ((with_reducible show wpAny _ _ (call (Value.ref 508) _) _ _ _); (try dsimp only [List.nil_append, List.cons_append]); k_dflt (refine' useV (g := fun t => Value.int _ t) (held_c _ _ _) ?uB ?uF ?uX ?uN ?uT ?uk ?ud ?uu ?_; (case uB => k_asm); (case uF => k_asm); (case uX => k_asm); (case uN => k_asm); (case uT => k_asm); (case uk => exact rfl); (case ud => ktr_room); (case uu => ktr_units); k_whole; intro t6 h6 tk6 F6 N6))
  k_steps
  all_goals (
    rename News _ _ _ _ => kN
    rename IntsAre _ _ => kI
    first | rw [e3, e2] at kI | rw [e3] at kI
    refine hret _ (_ :: (S, _) :: news) _ _ (by k_asm) (kst_newsOf kN (due_sub ?_)) ⟨_, _, _, rfl, ints_cast kI ?_, rfl⟩
    (intro p hp; first | exact hp | exact List.Mem.tail _ hp | exact List.Mem.tail _ (List.Mem.tail _ hp) | exact List.Mem.tail _ (List.Mem.tail _ (List.Mem.tail _ hp)) | exact List.Mem.tail _ (List.Mem.tail _ (List.Mem.tail _ (List.Mem.tail _ hp))) | exact List.Mem.tail _ (List.Mem.tail _ (List.Mem.tail _ (List.Mem.tail _ (List.Mem.tail _ hp)))) | exact List.Mem.tail _ (List.Mem.tail _ (List.Mem.tail _ (List.Mem.tail _ (List.Mem.tail _ (List.Mem.tail _ hp))))) | exact List.Mem.tail _ (List.Mem.tail _ (List.Mem.tail _ (List.Mem.tail _ (List.Mem.tail _ (List.Mem.tail _ (List.Mem.tail _ hp)))))) | exact List.Mem.tail _ (List.Mem.tail _ (List.Mem.tail _ (List.Mem.tail _ (List.Mem.tail _ (List.Mem.tail _ (List.Mem.tail _ (List.Mem.tail _ hp))))))) | (simp only [List.mem_cons] at hp ⊢; rcases hp with hp | hp <;> simp [hp]))
    first
      | exact congrArg (fun z => xs ++ [z]) (if_pos (e2 ▸ (by assumption : zs.getD _ 0 = 0))).symm
      | exact congrArg (fun z => xs ++ [z]) (if_neg (e2 ▸ (by assumption : zs.getD _ 0 ≠ 0))).symm)
theorem due1_bad {c : Int} (hm1 : Tn c [32, 34, 35, 36, 37, 38, 138]) (hm2 : Ty c [92, 100, 101, 102, 103]) : DueR w mean mg mb c [] none := by
  intro tc S vs k news hv hS
  obtain rfl := ints_nil hv
  refine CbM_mk ?_; intro dpY unY gdY cnY csY acY ccY clY ouY a0Y baY h0Y LY mY shY sgY sdY skY soY QY EY aB aF aX aN aT akY adY auY hret
  k_dflt cell_enter
  k_with_none
  k_with "cell_enter" => ((refine' enterM ?k1 ?k2 ?k3 ?k4 ?k5 ?kA ?kF ?kK ?k6 ?k7 ?k8 ?k9 ?kB ?_ ?c2 ?c3 ?c4 ?c5; (case kA => exact rfl); (case kF => exact rfl); (case kK => assumption); (case k1 => k_asm); (case k2 => k_asm); (case k3 => k_asm); (case k4 => k_asm); (case k5 => k_asm); (case k6 => k_is); (case k7 => k_is); (case k8 => first | ktr_room | k_room); (case k9 => first | exact BindsTo.of_eq rfl | exact binds_K (by k_in) rfl (by k_is) rfl rfl rfl); (case c5 => decide); (case kB => exact locs rfl); (case c2 => exact rfl); (case c3 => exact rfl); (case c4 => exact rfl); k_whole; intro mqzz gqzz Lqzz hqzz tqzz FGqzz Fqzz Nqzz Bqzz Xqzz Tqzz qkqzz ekqzz))
  k_with "storeName" => ((k_dflt (refine' storeL ?F ?N ?a ?b ?_; (case F => k_asm); (case N => k_asm); (case a => rfl); (case b => rfl); k_whole; intro mszz hszz tszz Fszz Nszz; (try k_sweep))))
  k_with "leaveF" => ((k_dflt (first | (refine' leaveF_ret ?k1 ?k2 ?_; (case k1 => k_asm); (case k2 => k_asm); k_whole) | (refine' leaveF_next ?k1 ?k2 ?_; (case k1 => k_asm); (case k2 => k_asm); k_whole)); intro kFlzz kNlzz; ground_anew kFlzz))
  k_with "ktr_room" => (((try dsimp only [depth_under_make, depth_under_kw, depth_in1, depth_deeper]); first | exact room1 (by assumption) (by decide) | exact room2 (by assumption) (by decide) | exact room0 (by assumption) | exact room3 (by assumption) (by decide) | exact room4 (by assumption) (by decide)))
  k_with "ktr_units" => (((try dsimp only [units_under_make, units_in1, units_deeper, Around.mark_units]); first | exact room1 (by assumption) (by decide) | exact room2 (by assumption) (by decide) | exact room0 (by assumption) | exact room3 (by assumption) (by decide) | exact room4 (by assumption) (by decide)))
  k_with "k_ne" => ((refine neN ?_; (try dsimp only); first | assumption | exact Ne.symm (by assumption) | exact Nat.ne_of_gt (by assumption) | exact Nat.ne_of_lt (by assumption) | exact neP1 (by assumption) | exact neP2 (by assumption) | exact neP3 (by assumption) | exact neP4 (by assumption) | exact neP5 (by assumption)))
  k_with "k_all" => (assumption)
  k_with "execs cons" => (((with_reducible show wpAny _ _ _ _ _ (PySem.Shared.mk _ _ _ (_ + 1) _)); refine genToks ?_; intro tk9zz))
  k_with "eval Constant int" => ((refine constG ?_; intro t9zz tk9zz))
  k_with "ke_room" => (ktr_units)
  k_with "k_room" => (((try simp only [depth_under_make, depth_under_kw, depth_in1]); ktr_room))
  k_with "binaryOp FloorDiv int int" => ((k_here; refine floordiv_int (by split <;> (first | lia | omega)) ?_ (Or.inl (noPyl (by split <;> (first | lia | omega))))))
  k_with "spliced" => first | ((with_reducible show wpAny _ _ (spliced (backTo _ (starEach [PySem.Expr.Name _ _] _))) _ _ _); k_dflt (refine' argsN ?hF ?h0 rfl rfl rfl ?_; (case hF => k_asm); (case h0 => exact rfl); k_whole)) | ((with_reducible show wpAny _ _ (spliced (backTo _ (starEach [PySem.Expr.Constant (Const.int _) _ _] _))) _ _ _); refine argsC ?_; intro t9 tk9) | ((with_reducible show wpAny _ _ (spliced (backTo _ (starEach [PySem.Expr.Name _ _, PySem.Expr.Name _ _] _))) _ _ _); k_dflt (refine' argsNN ?hF ?h0 ?h1 rfl rfl rfl rfl rfl ?_; (case hF => k_asm); (case h0 => exact rfl); (case h1 => exact rfl); k_whole)) | ((with_reducible show wpAny _ _ (spliced (backTo _ (starEach [PySem.Expr.Name _ _, PySem.Expr.Constant (Const.int _) _ _] _))) _ _ _); k_dflt (refine' argsNC ?hF ?h0 rfl rfl rfl ?_; (case hF => k_asm); (case h0 => exact rfl); k_whole); intro t9 tk9) | ((with_reducible show wpAny _ _ (spliced (backTo _ (starEach [PySem.Expr.Name _ _, PySem.Expr.Name _ _, PySem.Expr.Name _ _] _))) _ _ _); k_dflt (refine' argsNNN ?hF ?h0 ?h1 ?h2 rfl rfl rfl rfl rfl rfl rfl ?_; (case hF => k_asm); (case h0 => exact rfl); (case h1 => exact rfl); (case h2 => exact rfl); k_whole))
  k_with "isTrue Compare" => ((with_reducible show wpAny _ _ (isTrue (PySem.Expr.Compare (PySem.Expr.Name _ _) [_] [PySem.Expr.Constant (Const.int _) _ _] _) _ _) _ _ _); k_dflt (refine' tsNC ?hF ?h0 ?hc rfl rfl rfl ?_; (case hF => k_asm); (case h0 => exact rfl); (case hc => exact rfl); k_whole); intro tk9)
  k_with "execs cons" => first | ((with_reducible show wpAny _ _ _ _ _ (PySem.Shared.mk _ _ _ (_ + 1) _)); refine genToks ?_; intro tk9) | (refine consQ ?_; intro q9)
  k_with "flowQ" => first | (refine flow_next ?_) | (refine flow_ret ?_)
  k_with "isTrue Compare" => ((with_reducible show wpAny _ _ (isTrue (Expr.Compare (Expr.Name _ _) [CmpOp.In] [Expr.List _ _] _) _ _) _ _ _); k_dflt (refine' inT (b := ?zb) ?ze ?zh ?zF ?zN ?zm ?zk ?zx ?zd ?zl ?_; (case ze => (repeat' constructor)); (case zF => k_asm); (case zN => k_asm); (case zm => exact rfl); (case zh => first | assumption | exact rfl); (case zk => exact rfl); (case zx => exact rfl); (case zd => decide); (case zl => decide); k_whole; intro h9 tk9 F9 N9; (try k_sweep)))
  k_steps
  all_goals (rename News _ _ _ _ => kN)
  all_goals exact hret _ _ _ _ (by k_asm) (kst_newsOf kN (by intro p hp; first | exact hp | exact List.Mem.tail _ hp | exact List.Mem.tail _ (List.Mem.tail _ hp) | exact List.Mem.tail _ (List.Mem.tail _ (List.Mem.tail _ hp)) | exact List.Mem.tail _ (List.Mem.tail _ (List.Mem.tail _ (List.Mem.tail _ hp))) | exact List.Mem.tail _ (List.Mem.tail _ (List.Mem.tail _ (List.Mem.tail _ (List.Mem.tail _ hp)))) | exact List.Mem.tail _ (List.Mem.tail _ (List.Mem.tail _ (List.Mem.tail _ (List.Mem.tail _ (List.Mem.tail _ hp))))) | exact List.Mem.tail _ (List.Mem.tail _ (List.Mem.tail _ (List.Mem.tail _ (List.Mem.tail _ (List.Mem.tail _ (List.Mem.tail _ hp)))))) | exact List.Mem.tail _ (List.Mem.tail _ (List.Mem.tail _ (List.Mem.tail _ (List.Mem.tail _ (List.Mem.tail _ (List.Mem.tail _ (List.Mem.tail _ hp))))))) | (simp only [List.mem_cons] at hp ⊢; rcases hp with hp | hp <;> simp [hp]))) ⟨rfl, rfl⟩
theorem due92_bad : DueR w mean mg mb 92 [] none := due1_bad (by decide) (by decide)
theorem due100_bad : DueR w mean mg mb 100 [] none := due1_bad (by decide) (by decide)
theorem due101_bad : DueR w mean mg mb 101 [] none := due1_bad (by decide) (by decide)
theorem due102_bad : DueR w mean mg mb 102 [] none := due1_bad (by decide) (by decide)
theorem due103_bad : DueR w mean mg mb 103 [] none := due1_bad (by decide) (by decide)
theorem due_one (c : Int) (hc : 100 ≤ c ∧ c ≤ 103) (h92 : c ≠ 92) (hm1 : Tn c [32, 34, 35, 36, 37, 38, 138]) (hm2 : Ty c [92, 100, 101, 102, 103]) (xs : List Int) (y : Int) (hl : xs.length ≤ 7) (hy : -(2^31) ≤ y ∧ y ≤ 2^31) : DueR w mean mg mb c (xs ++ [y]) (some (xs ++ [oneS c y])) := by
  intro tc S vs k news hv hS
  have hl2 := hv.length
  refine oneE hv (fun zs hz hvN hlN hdec e2 e3 hlz => ?_)
  clear hv hl2
  have hv := hvN
  have hl2 := hlN
  clear hvN hlN
  refine CbM_mk ?_; intro dpY unY gdY cnY csY acY ccY clY ouY a0Y baY h0Y LY mY shY sgY sdY skY soY QY EY aB aF aX aN aT akY adY auY hret
  k_dflt cell_enter
  k_with_none
  k_with "cell_enter" => ((refine' enterM ?k1 ?k2 ?k3 ?k4 ?k5 ?kA ?kF ?kK ?k6 ?k7 ?k8 ?k9 ?kB ?_ ?c2 ?c3 ?c4 ?c5; (case kA => exact rfl); (case kF => exact rfl); (case kK => assumption); (case k1 => k_asm); (case k2 => k_asm); (case k3 => k_asm); (case k4 => k_asm); (case k5 => k_asm); (case k6 => k_is); (case k7 => k_is); (case k8 => first | ktr_room | k_room); (case k9 => first | exact BindsTo.of_eq rfl | exact binds_K (by k_in) rfl (by k_is) rfl rfl rfl); (case c5 => decide); (case kB => exact locs rfl); (case c2 => exact rfl); (case c3 => exact rfl); (case c4 => exact rfl); k_whole; intro mqzz gqzz Lqzz hqzz tqzz FGqzz Fqzz Nqzz Bqzz Xqzz Tqzz qkqzz ekqzz))
  k_with "storeName" => ((k_dflt (refine' storeL ?F ?N ?a ?b ?_; (case F => k_asm); (case N => k_asm); (case a => rfl); (case b => rfl); k_whole; intro mszz hszz tszz Fszz Nszz; (try k_sweep))))
  k_with "leaveF" => ((k_dflt (first | (refine' leaveF_ret ?k1 ?k2 ?_; (case k1 => k_asm); (case k2 => k_asm); k_whole) | (refine' leaveF_next ?k1 ?k2 ?_; (case k1 => k_asm); (case k2 => k_asm); k_whole)); intro kFlzz kNlzz; ground_anew kFlzz))
  k_with "ktr_room" => (((try dsimp only [depth_under_make, depth_under_kw, depth_in1, depth_deeper]); first | exact room1 (by assumption) (by decide) | exact room2 (by assumption) (by decide) | exact room0 (by assumption) | exact room3 (by assumption) (by decide) | exact room4 (by assumption) (by decide)))
  k_with "ktr_units" => (((try dsimp only [units_under_make, units_in1, units_deeper, Around.mark_units]); first | exact room1 (by assumption) (by decide) | exact room2 (by assumption) (by decide) | exact room0 (by assumption) | exact room3 (by assumption) (by decide) | exact room4 (by assumption) (by decide)))
  k_with "k_ne" => ((refine neN ?_; (try dsimp only); first | assumption | exact Ne.symm (by assumption) | exact Nat.ne_of_gt (by assumption) | exact Nat.ne_of_lt (by assumption) | exact neP1 (by assumption) | exact neP2 (by assumption) | exact neP3 (by assumption) | exact neP4 (by assumption) | exact neP5 (by assumption)))
  k_with "k_all" => (assumption)
  k_with "execs cons" => (((with_reducible show wpAny _ _ _ _ _ (PySem.Shared.mk _ _ _ (_ + 1) _)); refine genToks ?_; intro tk9zz))
  k_with "eval Constant int" => ((refine constG ?_; intro t9zz tk9zz))
  k_with "ke_room" => (ktr_units)
  k_with "k_room" => (((try simp only [depth_under_make, depth_under_kw, depth_in1]); ktr_room))
  k_with "binaryOp FloorDiv int int" => ((k_here; refine floordiv_int (by split <;> (first | lia | omega)) ?_ (Or.inl (noPyl (by split <;> (first | lia | omega))))))
  k_with "spliced" => first | ((with_reducible show wpAny _ _ (spliced (backTo _ (starEach [PySem.Expr.Name _ _] _))) _ _ _); k_dflt (refine' argsN ?hF ?h0 rfl rfl rfl ?_; (case hF => k_asm); (case h0 => exact rfl); k_whole)) | ((with_reducible show wpAny _ _ (spliced (backTo _ (starEach [PySem.Expr.Constant (Const.int _) _ _] _))) _ _ _); refine argsC ?_; intro t9 tk9) | ((with_reducible show wpAny _ _ (spliced (backTo _ (starEach [PySem.Expr.Name _ _, PySem.Expr.Name _ _] _))) _ _ _); k_dflt (refine' argsNN ?hF ?h0 ?h1 rfl rfl rfl rfl rfl ?_; (case hF => k_asm); (case h0 => exact rfl); (case h1 => exact rfl); k_whole)) | ((with_reducible show wpAny _ _ (spliced (backTo _ (starEach [PySem.Expr.Name _ _, PySem.Expr.Constant (Const.int _) _ _] _))) _ _ _); k_dflt (refine' argsNC ?hF ?h0 rfl rfl rfl ?_; (case hF => k_asm); (case h0 => exact rfl); k_whole); intro t9 tk9) | ((with_reducible show wpAny _ _ (spliced (backTo _ (starEach [PySem.Expr.Name _ _, PySem.Expr.Name _ _, PySem.Expr.Name _ _] _))) _ _ _); k_dflt (refine' argsNNN ?hF ?h0 ?h1 ?h2 rfl rfl rfl rfl rfl rfl rfl ?_; (case hF => k_asm); (case h0 => exact rfl); (case h1 => exact rfl); (case h2 => exact rfl); k_whole))
  k_with "isTrue Compare" => ((with_reducible show wpAny _ _ (isTrue (PySem.Expr.Compare (PySem.Expr.Name _ _) [_] [PySem.Expr.Constant (Const.int _) _ _] _) _ _) _ _ _); k_dflt (refine' tsNC ?hF ?h0 ?hc rfl rfl rfl ?_; (case hF => k_asm); (case h0 => exact rfl); (case hc => exact rfl); k_whole); intro tk9)
  k_with "execs cons" => first | ((with_reducible show wpAny _ _ _ _ _ (PySem.Shared.mk _ _ _ (_ + 1) _)); refine genToks ?_; intro tk9) | (refine consQ ?_; intro q9)
  k_with "flowQ" => first | (refine flow_next ?_) | (refine flow_ret ?_)
  k_with "isTrue Compare" => ((with_reducible show wpAny _ _ (isTrue (Expr.Compare (Expr.Name _ _) [CmpOp.In] [Expr.List _ _] _) _ _) _ _ _); k_dflt (refine' inT (b := ?zb) ?ze ?zh ?zF ?zN ?zm ?zk ?zx ?zd ?zl ?_; (case ze => (repeat' constructor)); (case zF => k_asm); (case zN => k_asm); (case zm => exact rfl); (case zh => first | assumption | exact rfl); (case zk => exact rfl); (case zx => exact rfl); (case zd => decide); (case zl => decide); k_whole; intro h9 tk9 F9 N9; (try k_sweep)))
  k_with "call ref" => first
    | ((with_reducible show wpAny _ _ (call (Value.ref 508) _) _ _ _); (try dsimp only [List.nil_append, List.cons_append]); k_dflt (refine' useV (g := fun t => Value.int _ t) (held_c _ _ _) ?uB ?uF ?uX ?uN ?uT ?uk ?ud ?uu ?_; (case uB => k_asm); (case uF => k_asm); (case uX => k_asm); (case uN => k_asm); (case uT => k_asm); (case uk => exact rfl); (case ud => ktr_room); (case uu => ktr_units); k_whole; intro t6 h6 tk6 F6 N6))
  k_steps
  all_goals (
    rename News _ _ _ _ => kN
    first
      | (exfalso; (first | lia | omega))
      | (rename IntsAre _ _ => kI
         rw [e3, e2] at kI
         refine hret _ (_ :: (S, _) :: news) _ _ (by k_asm) (kst_newsOf kN (due_sub (by intro p hp; first | exact hp | exact List.Mem.tail _ hp | exact List.Mem.tail _ (List.Mem.tail _ hp) | exact List.Mem.tail _ (List.Mem.tail _ (List.Mem.tail _ hp)) | exact List.Mem.tail _ (List.Mem.tail _ (List.Mem.tail _ (List.Mem.tail _ hp))) | exact List.Mem.tail _ (List.Mem.tail _ (List.Mem.tail _ (List.Mem.tail _ (List.Mem.tail _ hp)))) | exact List.Mem.tail _ (List.Mem.tail _ (List.Mem.tail _ (List.Mem.tail _ (List.Mem.tail _ (List.Mem.tail _ hp))))) | exact List.Mem.tail _ (List.Mem.tail _ (List.Mem.tail _ (List.Mem.tail _ (List.Mem.tail _ (List.Mem.tail _ (List.Mem.tail _ hp)))))) | exact List.Mem.tail _ (List.Mem.tail _ (List.Mem.tail _ (List.Mem.tail _ (List.Mem.tail _ (List.Mem.tail _ (List.Mem.tail _ (List.Mem.tail _ hp))))))) | (simp only [List.mem_cons] at hp ⊢; rcases hp with hp | hp <;> simp [hp])))) ⟨_, _, _, rfl, ints_cast kI ?_, rfl⟩
         first
           | exact congrArg (fun z => xs ++ [z]) (told_one hc y)
           | exact congrArg (fun z => xs ++ [z]) (told_one' hc y)))
theorem due100_ok (xs : List Int) (y : Int) (hl : xs.length ≤ 7) (hy : -(2^31) ≤ y ∧ y ≤ 2^31) : DueR w mean mg mb 100 (xs ++ [y]) (some (xs ++ [oneS 100 y])) := due_one 100 (by decide) (by decide) (by decide) (by decide) xs y hl hy
theorem due101_ok (xs : List Int) (y : Int) (hl : xs.length ≤ 7) (hy : -(2^31) ≤ y ∧ y ≤ 2^31) : DueR w mean mg mb 101 (xs ++ [y]) (some (xs ++ [oneS 101 y])) := due_one 101 (by decide) (by decide) (by decide) (by decide) xs y hl hy
theorem due102_ok (xs : List Int) (y : Int) (hl : xs.length ≤ 7) (hy : -(2^31) ≤ y ∧ y ≤ 2^31) : DueR w mean mg mb 102 (xs ++ [y]) (some (xs ++ [oneS 102 y])) := due_one 102 (by decide) (by decide) (by decide) (by decide) xs y hl hy
theorem due103_ok (xs : List Int) (y : Int) (hl : xs.length ≤ 7) (hy : -(2^31) ≤ y ∧ y ≤ 2^31) : DueR w mean mg mb 103 (xs ++ [y]) (some (xs ++ [oneS 103 y])) := due_one 103 (by decide) (by decide) (by decide) (by decide) xs y hl hy
/-- _law_moved of a code and a stack of ours answers o -/
noncomputable def MvR (w : World) (mean : ExcName → Option Value) (mg mb : Str → Option Value) (c : Int) (xs : List Int) (o : Option (List Int)) : Prop :=
  ∀ (tc : Tok) (S : Nat) (vs : List Value) (k : Nat) (news : List (Addr × Obj)), IntsAre vs xs → (∀ p ∈ news, p.1 ≠ S) → CbM w mean mg mb 522 40 1500 ((S, listOf vs.toArray k) :: news) [.int c tc, .ref S]
    (fun n' r => match o with | none => r = .none ∧ n' = (S, listOf vs.toArray k) :: news | some ys => ∃ D us k2, r = .ref D ∧ IntsAre us ys ∧ n' = (D, listOf us.toArray k2) :: (S, listOf vs.toArray k) :: news)
theorem due_mv {c : Int} (hm : Ty c [32, 34, 35, 36, 37, 38, 138]) {zs : List Int} {o : Option (List Int)} (h : MvR w mean mg mb c zs o) : DueR w mean mg mb c zs o := by
  intro tc S vs k news hv hS
  refine CbM_mk ?_; intro dpY unY gdY cnY csY acY ccY clY ouY a0Y baY h0Y LY mY shY sgY sdY skY soY QY EY aB aF aX aN aT akY adY auY hret
  k_dflt cell_enter
  k_with_none
  k_with "cell_enter" => ((refine' enterM ?k1 ?k2 ?k3 ?k4 ?k5 ?kA ?kF ?kK ?k6 ?k7 ?k8 ?k9 ?kB ?_ ?c2 ?c3 ?c4 ?c5; (case kA => exact rfl); (case kF => exact rfl); (case kK => assumption); (case k1 => k_asm); (case k2 => k_asm); (case k3 => k_asm); (case k4 => k_asm); (case k5 => k_asm); (case k6 => k_is); (case k7 => k_is); (case k8 => first | ktr_room | k_room); (case k9 => first | exact BindsTo.of_eq rfl | exact binds_K (by k_in) rfl (by k_is) rfl rfl rfl); (case c5 => decide); (case kB => exact locs rfl); (case c2 => exact rfl); (case c3 => exact rfl); (case c4 => exact rfl); k_whole; intro mqzz gqzz Lqzz hqzz tqzz FGqzz Fqzz Nqzz Bqzz Xqzz Tqzz qkqzz ekqzz))
  k_with "storeName" => ((k_dflt (refine' storeL ?F ?N ?a ?b ?_; (case F => k_asm); (case N => k_asm); (case a => rfl); (case b => rfl); k_whole; intro mszz hszz tszz Fszz Nszz; (try k_sweep))))
  k_with "leaveF" => ((k_dflt (first | (refine' leaveF_ret ?k1 ?k2 ?_; (case k1 => k_asm); (case k2 => k_asm); k_whole) | (refine' leaveF_next ?k1 ?k2 ?_; (case k1 => k_asm); (case k2 => k_asm); k_whole)); intro kFlzz kNlzz; ground_anew kFlzz))
  k_with "ktr_room" => (((try dsimp only [depth_under_make, depth_under_kw, depth_in1, depth_deeper]); first | exact room1 (by assumption) (by decide) | exact room2 (by assumption) (by decide) | exact room0 (by assumption) | exact room3 (by assumption) (by decide) | exact room4 (by assumption) (by decide)))
  k_with "ktr_units" => (((try dsimp only [units_under_make, units_in1, units_deeper, Around.mark_units]); first | exact room1 (by assumption) (by decide) | exact room2 (by assumption) (by decide) | exact room0 (by assumption) | exact room3 (by assumption) (by decide) | exact room4 (by assumption) (by decide)))
  k_with "k_ne" => ((refine neN ?_; (try dsimp only); first | assumption | exact Ne.symm (by assumption) | exact Nat.ne_of_gt (by assumption) | exact Nat.ne_of_lt (by assumption) | exact neP1 (by assumption) | exact neP2 (by assumption) | exact neP3 (by assumption) | exact neP4 (by assumption) | exact neP5 (by assumption)))
  k_with "k_all" => (assumption)
  k_with "execs cons" => (((with_reducible show wpAny _ _ _ _ _ (PySem.Shared.mk _ _ _ (_ + 1) _)); refine genToks ?_; intro tk9zz))
  k_with "eval Constant int" => ((refine constG ?_; intro t9zz tk9zz))
  k_with "ke_room" => (ktr_units)
  k_with "k_room" => (((try simp only [depth_under_make, depth_under_kw, depth_in1]); ktr_room))
  k_with "binaryOp FloorDiv int int" => ((k_here; refine floordiv_int (by split <;> (first | lia | omega)) ?_ (Or.inl (noPyl (by split <;> (first | lia | omega))))))
  k_with "spliced" => first | ((with_reducible show wpAny _ _ (spliced (backTo _ (starEach [PySem.Expr.Name _ _] _))) _ _ _); k_dflt (refine' argsN ?hF ?h0 rfl rfl rfl ?_; (case hF => k_asm); (case h0 => exact rfl); k_whole)) | ((with_reducible show wpAny _ _ (spliced (backTo _ (starEach [PySem.Expr.Constant (Const.int _) _ _] _))) _ _ _); refine argsC ?_; intro t9 tk9) | ((with_reducible show wpAny _ _ (spliced (backTo _ (starEach [PySem.Expr.Name _ _, PySem.Expr.Name _ _] _))) _ _ _); k_dflt (refine' argsNN ?hF ?h0 ?h1 rfl rfl rfl rfl rfl ?_; (case hF => k_asm); (case h0 => exact rfl); (case h1 => exact rfl); k_whole)) | ((with_reducible show wpAny _ _ (spliced (backTo _ (starEach [PySem.Expr.Name _ _, PySem.Expr.Constant (Const.int _) _ _] _))) _ _ _); k_dflt (refine' argsNC ?hF ?h0 rfl rfl rfl ?_; (case hF => k_asm); (case h0 => exact rfl); k_whole); intro t9 tk9) | ((with_reducible show wpAny _ _ (spliced (backTo _ (starEach [PySem.Expr.Name _ _, PySem.Expr.Name _ _, PySem.Expr.Name _ _] _))) _ _ _); k_dflt (refine' argsNNN ?hF ?h0 ?h1 ?h2 rfl rfl rfl rfl rfl rfl rfl ?_; (case hF => k_asm); (case h0 => exact rfl); (case h1 => exact rfl); (case h2 => exact rfl); k_whole))
  k_with "isTrue Compare" => ((with_reducible show wpAny _ _ (isTrue (PySem.Expr.Compare (PySem.Expr.Name _ _) [_] [PySem.Expr.Constant (Const.int _) _ _] _) _ _) _ _ _); k_dflt (refine' tsNC ?hF ?h0 ?hc rfl rfl rfl ?_; (case hF => k_asm); (case h0 => exact rfl); (case hc => exact rfl); k_whole); intro tk9)
  k_with "execs cons" => first | ((with_reducible show wpAny _ _ _ _ _ (PySem.Shared.mk _ _ _ (_ + 1) _)); refine genToks ?_; intro tk9) | (refine consQ ?_; intro q9)
  k_with "flowQ" => first | (refine flow_next ?_) | (refine flow_ret ?_)
  k_with "isTrue Compare" => ((with_reducible show wpAny _ _ (isTrue (Expr.Compare (Expr.Name _ _) [CmpOp.In] [Expr.List _ _] _) _ _) _ _ _); k_dflt (refine' inT (b := ?zb) ?ze ?zh ?zF ?zN ?zm ?zk ?zx ?zd ?zl ?_; (case ze => (repeat' constructor)); (case zF => k_asm); (case zN => k_asm); (case zm => exact rfl); (case zh => first | assumption | exact rfl); (case zk => exact rfl); (case zx => exact rfl); (case zd => decide); (case zl => decide); k_whole; intro h9 tk9 F9 N9; (try k_sweep)))
  k_with "call ref" =>
    ((with_reducible show wpAny _ _ (call (Value.ref 522) _) _ _ _); (try dsimp only [List.nil_append, List.cons_append]); rename News _ _ _ _ => kN; k_dflt (refine' useM (h _ S vs k news hv hS) ?uB ?uF ?uX (kst_newsOf kN (by intro p hp; first | exact hp | exact List.Mem.tail _ hp | exact List.Mem.tail _ (List.Mem.tail _ hp) | exact List.Mem.tail _ (List.Mem.tail _ (List.Mem.tail _ hp)) | exact List.Mem.tail _ (List.Mem.tail _ (List.Mem.tail _ (List.Mem.tail _ hp))) | exact List.Mem.tail _ (List.Mem.tail _ (List.Mem.tail _ (List.Mem.tail _ (List.Mem.tail _ hp)))) | exact List.Mem.tail _ (List.Mem.tail _ (List.Mem.tail _ (List.Mem.tail _ (List.Mem.tail _ (List.Mem.tail _ hp))))) | exact List.Mem.tail _ (List.Mem.tail _ (List.Mem.tail _ (List.Mem.tail _ (List.Mem.tail _ (List.Mem.tail _ (List.Mem.tail _ hp)))))) | exact List.Mem.tail _ (List.Mem.tail _ (List.Mem.tail _ (List.Mem.tail _ (List.Mem.tail _ (List.Mem.tail _ (List.Mem.tail _ (List.Mem.tail _ hp))))))) | (simp only [List.mem_cons] at hp ⊢; rcases hp with hp | hp <;> simp [hp]))) ?uT ?uk ?ud ?uu ?_; (case uB => k_asm); (case uF => k_asm); (case uX => k_asm); (case uT => k_asm); (case uk => exact rfl); (case ud => ktr_room); (case uu => ktr_units); k_whole; intro r6 n6 h6 tk6 P6 F6 N6))
  k_steps
  all_goals (rename News _ _ _ _ => kN; exact hret _ _ _ _ (by k_asm) kN P6)
theorem mv_nil (c : Int) : MvR w mean mg mb c [] (if c = 34 then some [] else if c = 36 then some [0] else none) := by
  intro tc S vs k news hv hS
  obtain rfl := ints_nil hv
  refine CbM_mk ?_; intro dpY unY gdY cnY csY acY ccY clY ouY a0Y baY h0Y LY mY shY sgY sdY skY soY QY EY aB aF aX aN aT akY adY auY hret
  k_dflt cell_enter
  k_with_none
  k_with "cell_enter" => ((refine' enterM ?k1 ?k2 ?k3 ?k4 ?k5 ?kA ?kF ?kK ?k6 ?k7 ?k8 ?k9 ?kB ?_ ?c2 ?c3 ?c4 ?c5; (case kA => exact rfl); (case kF => exact rfl); (case kK => assumption); (case k1 => k_asm); (case k2 => k_asm); (case k3 => k_asm); (case k4 => k_asm); (case k5 => k_asm); (case k6 => k_is); (case k7 => k_is); (case k8 => first | ktr_room | k_room); (case k9 => first | exact BindsTo.of_eq rfl | exact binds_K (by k_in) rfl (by k_is) rfl rfl rfl); (case c5 => decide); (case kB => exact locs rfl); (case c2 => exact rfl); (case c3 => exact rfl); (case c4 => exact rfl); k_whole; intro mqzz gqzz Lqzz hqzz tqzz FGqzz Fqzz Nqzz Bqzz Xqzz Tqzz qkqzz ekqzz))
  k_with "storeName" => ((k_dflt (refine' storeL ?F ?N ?a ?b ?_; (case F => k_asm); (case N => k_asm); (case a => rfl); (case b => rfl); k_whole; intro mszz hszz tszz Fszz Nszz; (try k_sweep))))
  k_with "leaveF" => ((k_dflt (first | (refine' leaveF_ret ?k1 ?k2 ?_; (case k1 => k_asm); (case k2 => k_asm); k_whole) | (refine' leaveF_next ?k1 ?k2 ?_; (case k1 => k_asm); (case k2 => k_asm); k_whole)); intro kFlzz kNlzz; ground_anew kFlzz))
  k_with "ktr_room" => (((try dsimp only [depth_under_make, depth_under_kw, depth_in1, depth_deeper]); first | exact room1 (by assumption) (by decide) | exact room2 (by assumption) (by decide) | exact room0 (by assumption) | exact room3 (by assumption) (by decide) | exact room4 (by assumption) (by decide)))
  k_with "ktr_units" => (((try dsimp only [units_under_make, units_in1, units_deeper, Around.mark_units]); first | exact room1 (by assumption) (by decide) | exact room2 (by assumption) (by decide) | exact room0 (by assumption) | exact room3 (by assumption) (by decide) | exact room4 (by assumption) (by decide)))
  k_with "k_ne" => ((refine neN ?_; (try dsimp only); first | assumption | exact Ne.symm (by assumption) | exact Nat.ne_of_gt (by assumption) | exact Nat.ne_of_lt (by assumption) | exact neP1 (by assumption) | exact neP2 (by assumption) | exact neP3 (by assumption) | exact neP4 (by assumption) | exact neP5 (by assumption)))
  k_with "k_all" => (assumption)
  k_with "execs cons" => (((with_reducible show wpAny _ _ _ _ _ (PySem.Shared.mk _ _ _ (_ + 1) _)); refine genToks ?_; intro tk9zz))
  k_with "eval Constant int" => ((refine constG ?_; intro t9zz tk9zz))
  k_with "ke_room" => (ktr_units)
  k_with "k_room" => (((try simp only [depth_under_make, depth_under_kw, depth_in1]); ktr_room))
  k_with "binaryOp FloorDiv int int" => ((k_here; refine floordiv_int (by split <;> (first | lia | omega)) ?_ (Or.inl (noPyl (by split <;> (first | lia | omega))))))
  k_with "spliced" => first | ((with_reducible show wpAny _ _ (spliced (backTo _ (starEach [PySem.Expr.Name _ _] _))) _ _ _); k_dflt (refine' argsN ?hF ?h0 rfl rfl rfl ?_; (case hF => k_asm); (case h0 => exact rfl); k_whole)) | ((with_reducible show wpAny _ _ (spliced (backTo _ (starEach [PySem.Expr.Constant (Const.int _) _ _] _))) _ _ _); refine argsC ?_; intro t9 tk9) | ((with_reducible show wpAny _ _ (spliced (backTo _ (starEach [PySem.Expr.Name _ _, PySem.Expr.Name _ _] _))) _ _ _); k_dflt (refine' argsNN ?hF ?h0 ?h1 rfl rfl rfl rfl rfl ?_; (case hF => k_asm); (case h0 => exact rfl); (case h1 => exact rfl); k_whole)) | ((with_reducible show wpAny _ _ (spliced (backTo _ (starEach [PySem.Expr.Name _ _, PySem.Expr.Constant (Const.int _) _ _] _))) _ _ _); k_dflt (refine' argsNC ?hF ?h0 rfl rfl rfl ?_; (case hF => k_asm); (case h0 => exact rfl); k_whole); intro t9 tk9) | ((with_reducible show wpAny _ _ (spliced (backTo _ (starEach [PySem.Expr.Name _ _, PySem.Expr.Name _ _, PySem.Expr.Name _ _] _))) _ _ _); k_dflt (refine' argsNNN ?hF ?h0 ?h1 ?h2 rfl rfl rfl rfl rfl rfl rfl ?_; (case hF => k_asm); (case h0 => exact rfl); (case h1 => exact rfl); (case h2 => exact rfl); k_whole))
  k_with "isTrue Compare" => ((with_reducible show wpAny _ _ (isTrue (PySem.Expr.Compare (PySem.Expr.Name _ _) [_] [PySem.Expr.Constant (Const.int _) _ _] _) _ _) _ _ _); k_dflt (refine' tsNC ?hF ?h0 ?hc rfl rfl rfl ?_; (case hF => k_asm); (case h0 => exact rfl); (case hc => exact rfl); k_whole); intro tk9)
  k_with "execs cons" => first | ((with_reducible show wpAny _ _ _ _ _ (PySem.Shared.mk _ _ _ (_ + 1) _)); refine genToks ?_; intro tk9) | (refine consQ ?_; intro q9)
  k_with "flowQ" => first | (refine flow_next ?_) | (refine flow_ret ?_)
  k_with "isTrue Compare" => ((with_reducible show wpAny _ _ (isTrue (Expr.Compare (Expr.Name _ _) [CmpOp.In] [Expr.List _ _] _) _ _) _ _ _); k_dflt (refine' inT (b := ?zb) ?ze ?zh ?zF ?zN ?zm ?zk ?zx ?zd ?zl ?_; (case ze => (repeat' constructor)); (case zF => k_asm); (case zN => k_asm); (case zm => exact rfl); (case zh => first | assumption | exact rfl); (case zk => exact rfl); (case zx => exact rfl); (case zd => decide); (case zl => decide); k_whole; intro h9 tk9 F9 N9; (try k_sweep)))
  k_steps
  all_goals (
    rename News _ _ _ _ => kN
    first
      | exact hret _ _ _ _ (by k_asm) (due_take (rest := (S, listOf (List.toArray []) k) :: news) kN (by intro p hp; first | exact hp | exact List.Mem.tail _ hp | exact List.Mem.tail _ (List.Mem.tail _ hp) | exact List.Mem.tail _ (List.Mem.tail _ (List.Mem.tail _ hp)) | exact List.Mem.tail _ (List.Mem.tail _ (List.Mem.tail _ (List.Mem.tail _ hp))) | exact List.Mem.tail _ (List.Mem.tail _ (List.Mem.tail _ (List.Mem.tail _ (List.Mem.tail _ hp)))) | exact List.Mem.tail _ (List.Mem.tail _ (List.Mem.tail _ (List.Mem.tail _ (List.Mem.tail _ (List.Mem.tail _ hp))))) | exact List.Mem.tail _ (List.Mem.tail _ (List.Mem.tail _ (List.Mem.tail _ (List.Mem.tail _ (List.Mem.tail _ (List.Mem.tail _ hp)))))) | exact List.Mem.tail _ (List.Mem.tail _ (List.Mem.tail _ (List.Mem.tail _ (List.Mem.tail _ (List.Mem.tail _ (List.Mem.tail _ (List.Mem.tail _ hp))))))) | (simp only [List.mem_cons] at hp ⊢; rcases hp with hp | hp <;> simp [hp]))) (by rw [if_pos (show c = 34 by assumption)]; exact ⟨_, [], _, rfl, .nil, rfl⟩)
      | exact hret _ _ _ _ (by k_asm) (due_take (rest := (S, listOf (List.toArray []) k) :: news) kN (by intro p hp; first | exact hp | exact List.Mem.tail _ hp | exact List.Mem.tail _ (List.Mem.tail _ hp) | exact List.Mem.tail _ (List.Mem.tail _ (List.Mem.tail _ hp)) | exact List.Mem.tail _ (List.Mem.tail _ (List.Mem.tail _ (List.Mem.tail _ hp))) | exact List.Mem.tail _ (List.Mem.tail _ (List.Mem.tail _ (List.Mem.tail _ (List.Mem.tail _ hp)))) | exact List.Mem.tail _ (List.Mem.tail _ (List.Mem.tail _ (List.Mem.tail _ (List.Mem.tail _ (List.Mem.tail _ hp))))) | exact List.Mem.tail _ (List.Mem.tail _ (List.Mem.tail _ (List.Mem.tail _ (List.Mem.tail _ (List.Mem.tail _ (List.Mem.tail _ hp)))))) | exact List.Mem.tail _ (List.Mem.tail _ (List.Mem.tail _ (List.Mem.tail _ (List.Mem.tail _ (List.Mem.tail _ (List.Mem.tail _ (List.Mem.tail _ hp))))))) | (simp only [List.mem_cons] at hp ⊢; rcases hp with hp | hp <;> simp [hp]))) (by rw [if_neg (show ¬ c = 34 by (first | lia | omega)), if_pos (show c = 36 by assumption)]; exact ⟨_, [.int 0 _], _, rfl, .cons _ _ .nil, rfl⟩)
      | (refine hret _ ((S, listOf (List.toArray []) k) :: news) _ _ (by k_asm) (kst_newsOf kN ?qs9) ?qp9; (case qp9 => rw [if_neg (show ¬ c = 34 by (first | lia | omega)), if_neg (show ¬ c = 36 by (first | lia | omega))]; exact ⟨rfl, rfl⟩); (case qs9 => exact (by intro p hp; first | exact hp | exact List.Mem.tail _ hp | exact List.Mem.tail _ (List.Mem.tail _ hp) | exact List.Mem.tail _ (List.Mem.tail _ (List.Mem.tail _ hp)) | exact List.Mem.tail _ (List.Mem.tail _ (List.Mem.tail _ (List.Mem.tail _ hp))) | exact List.Mem.tail _ (List.Mem.tail _ (List.Mem.tail _ (List.Mem.tail _ (List.Mem.tail _ hp)))) | exact List.Mem.tail _ (List.Mem.tail _ (List.Mem.tail _ (List.Mem.tail _ (List.Mem.tail _ (List.Mem.tail _ hp))))) | exact List.Mem.tail _ (List.Mem.tail _ (List.Mem.tail _ (List.Mem.tail _ (List.Mem.tail _ (List.Mem.tail _ (List.Mem.tail _ hp)))))) | exact List.Mem.tail _ (List.Mem.tail _ (List.Mem.tail _ (List.Mem.tail _ (List.Mem.tail _ (List.Mem.tail _ (List.Mem.tail _ (List.Mem.tail _ hp))))))) | (simp only [List.mem_cons] at hp ⊢; rcases hp with hp | hp <;> simp [hp]))))
  )
theorem mv32 (zs : List Int) (h0 : 0 < zs.length) (hl : zs.length ≤ 8) (hdec : decide (zs = []) = false) : MvR w mean mg mb 32 zs (if zs.length < 8 then some (zs ++ zs.drop (zs.length - 1)) else none) := by
  intro tc S vs k news hv hS
  have hl2 := hv.length
  refine CbM_mk ?_; intro dpY unY gdY cnY csY acY ccY clY ouY a0Y baY h0Y LY mY shY sgY sdY skY soY QY EY aB aF aX aN aT akY adY auY hret
  k_dflt cell_enter
  k_with_none
  k_with "cell_enter" => ((refine' enterM ?k1 ?k2 ?k3 ?k4 ?k5 ?kA ?kF ?kK ?k6 ?k7 ?k8 ?k9 ?kB ?_ ?c2 ?c3 ?c4 ?c5; (case kA => exact rfl); (case kF => exact rfl); (case kK => assumption); (case k1 => k_asm); (case k2 => k_asm); (case k3 => k_asm); (case k4 => k_asm); (case k5 => k_asm); (case k6 => k_is); (case k7 => k_is); (case k8 => first | ktr_room | k_room); (case k9 => first | exact BindsTo.of_eq rfl | exact binds_K (by k_in) rfl (by k_is) rfl rfl rfl); (case c5 => decide); (case kB => exact locs rfl); (case c2 => exact rfl); (case c3 => exact rfl); (case c4 => exact rfl); k_whole; intro mqzz gqzz Lqzz hqzz tqzz FGqzz Fqzz Nqzz Bqzz Xqzz Tqzz qkqzz ekqzz))
  k_with "storeName" => ((k_dflt (refine' storeL ?F ?N ?a ?b ?_; (case F => k_asm); (case N => k_asm); (case a => rfl); (case b => rfl); k_whole; intro mszz hszz tszz Fszz Nszz; (try k_sweep))))
  k_with "leaveF" => ((k_dflt (first | (refine' leaveF_ret ?k1 ?k2 ?_; (case k1 => k_asm); (case k2 => k_asm); k_whole) | (refine' leaveF_next ?k1 ?k2 ?_; (case k1 => k_asm); (case k2 => k_asm); k_whole)); intro kFlzz kNlzz; ground_anew kFlzz))
  k_with "ktr_room" => (((try dsimp only [depth_under_make, depth_under_kw, depth_in1, depth_deeper]); first | exact room1 (by assumption) (by decide) | exact room2 (by assumption) (by decide) | exact room0 (by assumption) | exact room3 (by assumption) (by decide) | exact room4 (by assumption) (by decide)))
  k_with "ktr_units" => (((try dsimp only [units_under_make, units_in1, units_deeper, Around.mark_units]); first | exact room1 (by assumption) (by decide) | exact room2 (by assumption) (by decide) | exact room0 (by assumption) | exact room3 (by assumption) (by decide) | exact room4 (by assumption) (by decide)))
  k_with "k_ne" => ((refine neN ?_; (try dsimp only); first | assumption | exact Ne.symm (by assumption) | exact Nat.ne_of_gt (by assumption) | exact Nat.ne_of_lt (by assumption) | exact neP1 (by assumption) | exact neP2 (by assumption) | exact neP3 (by assumption) | exact neP4 (by assumption) | exact neP5 (by assumption)))
  k_with "k_all" => (assumption)
  k_with "execs cons" => (((with_reducible show wpAny _ _ _ _ _ (PySem.Shared.mk _ _ _ (_ + 1) _)); refine genToks ?_; intro tk9zz))
  k_with "eval Constant int" => ((refine constG ?_; intro t9zz tk9zz))
  k_with "ke_room" => (ktr_units)
  k_with "k_room" => (((try simp only [depth_under_make, depth_under_kw, depth_in1]); ktr_room))
  k_with "binaryOp FloorDiv int int" => ((k_here; refine floordiv_int (by split <;> (first | lia | omega)) ?_ (Or.inl (noPyl (by split <;> (first | lia | omega))))))
  k_with "spliced" => first | ((with_reducible show wpAny _ _ (spliced (backTo _ (starEach [PySem.Expr.Name _ _] _))) _ _ _); k_dflt (refine' argsN ?hF ?h0 rfl rfl rfl ?_; (case hF => k_asm); (case h0 => exact rfl); k_whole)) | ((with_reducible show wpAny _ _ (spliced (backTo _ (starEach [PySem.Expr.Constant (Const.int _) _ _] _))) _ _ _); refine argsC ?_; intro t9 tk9) | ((with_reducible show wpAny _ _ (spliced (backTo _ (starEach [PySem.Expr.Name _ _, PySem.Expr.Name _ _] _))) _ _ _); k_dflt (refine' argsNN ?hF ?h0 ?h1 rfl rfl rfl rfl rfl ?_; (case hF => k_asm); (case h0 => exact rfl); (case h1 => exact rfl); k_whole)) | ((with_reducible show wpAny _ _ (spliced (backTo _ (starEach [PySem.Expr.Name _ _, PySem.Expr.Constant (Const.int _) _ _] _))) _ _ _); k_dflt (refine' argsNC ?hF ?h0 rfl rfl rfl ?_; (case hF => k_asm); (case h0 => exact rfl); k_whole); intro t9 tk9) | ((with_reducible show wpAny _ _ (spliced (backTo _ (starEach [PySem.Expr.Name _ _, PySem.Expr.Name _ _, PySem.Expr.Name _ _] _))) _ _ _); k_dflt (refine' argsNNN ?hF ?h0 ?h1 ?h2 rfl rfl rfl rfl rfl rfl rfl ?_; (case hF => k_asm); (case h0 => exact rfl); (case h1 => exact rfl); (case h2 => exact rfl); k_whole))
  k_with "isTrue Compare" => ((with_reducible show wpAny _ _ (isTrue (PySem.Expr.Compare (PySem.Expr.Name _ _) [_] [PySem.Expr.Constant (Const.int _) _ _] _) _ _) _ _ _); k_dflt (refine' tsNC ?hF ?h0 ?hc rfl rfl rfl ?_; (case hF => k_asm); (case h0 => exact rfl); (case hc => exact rfl); k_whole); intro tk9)
  k_with "execs cons" => first | ((with_reducible show wpAny _ _ _ _ _ (PySem.Shared.mk _ _ _ (_ + 1) _)); refine genToks ?_; intro tk9) | (refine consQ ?_; intro q9)
  k_with "flowQ" => first | (refine flow_next ?_) | (refine flow_ret ?_)
  k_with "isTrue Compare" => ((with_reducible show wpAny _ _ (isTrue (Expr.Compare (Expr.Name _ _) [CmpOp.In] [Expr.List _ _] _) _ _) _ _ _); k_dflt (refine' inT (b := ?zb) ?ze ?zh ?zF ?zN ?zm ?zk ?zx ?zd ?zl ?_; (case ze => (repeat' constructor)); (case zF => k_asm); (case zN => k_asm); (case zm => exact rfl); (case zh => first | assumption | exact rfl); (case zk => exact rfl); (case zx => exact rfl); (case zd => decide); (case zl => decide); k_whole; intro h9 tk9 F9 N9; (try k_sweep)))
  k_steps
  all_goals (
    rename News _ _ _ _ => kN
    first
      | (rename IntsAre _ _ => kI; exact hret _ _ _ _ (by k_asm) (due_take (rest := (S, listOf vs.toArray k) :: news) kN (by intro p hp; first | exact hp | exact List.Mem.tail _ hp | exact List.Mem.tail _ (List.Mem.tail _ hp) | exact List.Mem.tail _ (List.Mem.tail _ (List.Mem.tail _ hp)) | exact List.Mem.tail _ (List.Mem.tail _ (List.Mem.tail _ (List.Mem.tail _ hp))) | exact List.Mem.tail _ (List.Mem.tail _ (List.Mem.tail _ (List.Mem.tail _ (List.Mem.tail _ hp)))) | exact List.Mem.tail _ (List.Mem.tail _ (List.Mem.tail _ (List.Mem.tail _ (List.Mem.tail _ (List.Mem.tail _ hp))))) | exact List.Mem.tail _ (List.Mem.tail _ (List.Mem.tail _ (List.Mem.tail _ (List.Mem.tail _ (List.Mem.tail _ (List.Mem.tail _ hp)))))) | exact List.Mem.tail _ (List.Mem.tail _ (List.Mem.tail _ (List.Mem.tail _ (List.Mem.tail _ (List.Mem.tail _ (List.Mem.tail _ (List.Mem.tail _ hp))))))) | (simp only [List.mem_cons] at hp ⊢; rcases hp with hp | hp <;> simp [hp]))) (by first | exact ⟨_, _, _, rfl, kI, rfl⟩ | (rw [if_pos (show zs.length < 8 by (first | lia | omega))]; exact ⟨_, _, _, rfl, kI, rfl⟩)))
      | (refine hret _ ((S, listOf vs.toArray k) :: news) _ _ (by k_asm) (kst_newsOf kN ?qs9) ?qp9; (case qp9 => first | exact ⟨rfl, rfl⟩ | (rw [if_neg (show ¬ (zs.length < 8) by (first | lia | omega))]; exact ⟨rfl, rfl⟩)); (case qs9 => exact (by intro p hp; first | exact hp | exact List.Mem.tail _ hp | exact List.Mem.tail _ (List.Mem.tail _ hp) | exact List.Mem.tail _ (List.Mem.tail _ (List.Mem.tail _ hp)) | exact List.Mem.tail _ (List.Mem.tail _ (List.Mem.tail _ (List.Mem.tail _ hp))) | exact List.Mem.tail _ (List.Mem.tail _ (List.Mem.tail _ (List.Mem.tail _ (List.Mem.tail _ hp)))) | exact List.Mem.tail _ (List.Mem.tail _ (List.Mem.tail _ (List.Mem.tail _ (List.Mem.tail _ (List.Mem.tail _ hp))))) | exact List.Mem.tail _ (List.Mem.tail _ (List.Mem.tail _ (List.Mem.tail _ (List.Mem.tail _ (List.Mem.tail _ (List.Mem.tail _ hp)))))) | exact List.Mem.tail _ (List.Mem.tail _ (List.Mem.tail _ (List.Mem.tail _ (List.Mem.tail _ (List.Mem.tail _ (List.Mem.tail _ (List.Mem.tail _ hp))))))) | (simp only [List.mem_cons] at hp ⊢; rcases hp with hp | hp <;> simp [hp]))))
  )
theorem mv34 (zs : List Int) (h0 : 0 < zs.length) (hl : zs.length ≤ 8) (hdec : decide (zs = []) = false) : MvR w mean mg mb 34 zs (some []) := by
  intro tc S vs k news hv hS
  have hl2 := hv.length
  refine CbM_mk ?_; intro dpY unY gdY cnY csY acY ccY clY ouY a0Y baY h0Y LY mY shY sgY sdY skY soY QY EY aB aF aX aN aT akY adY auY hret
  k_dflt cell_enter
  k_with_none
  k_with "cell_enter" => ((refine' enterM ?k1 ?k2 ?k3 ?k4 ?k5 ?kA ?kF ?kK ?k6 ?k7 ?k8 ?k9 ?kB ?_ ?c2 ?c3 ?c4 ?c5; (case kA => exact rfl); (case kF => exact rfl); (case kK => assumption); (case k1 => k_asm); (case k2 => k_asm); (case k3 => k_asm); (case k4 => k_asm); (case k5 => k_asm); (case k6 => k_is); (case k7 => k_is); (case k8 => first | ktr_room | k_room); (case k9 => first | exact BindsTo.of_eq rfl | exact binds_K (by k_in) rfl (by k_is) rfl rfl rfl); (case c5 => decide); (case kB => exact locs rfl); (case c2 => exact rfl); (case c3 => exact rfl); (case c4 => exact rfl); k_whole; intro mqzz gqzz Lqzz hqzz tqzz FGqzz Fqzz Nqzz Bqzz Xqzz Tqzz qkqzz ekqzz))
  k_with "storeName" => ((k_dflt (refine' storeL ?F ?N ?a ?b ?_; (case F => k_asm); (case N => k_asm); (case a => rfl); (case b => rfl); k_whole; intro mszz hszz tszz Fszz Nszz; (try k_sweep))))
  k_with "leaveF" => ((k_dflt (first | (refine' leaveF_ret ?k1 ?k2 ?_; (case k1 => k_asm); (case k2 => k_asm); k_whole) | (refine' leaveF_next ?k1 ?k2 ?_; (case k1 => k_asm); (case k2 => k_asm); k_whole)); intro kFlzz kNlzz; ground_anew kFlzz))
  k_with "ktr_room" => (((try dsimp only [depth_under_make, depth_under_kw, depth_in1, depth_deeper]); first | exact room1 (by assumption) (by decide) | exact room2 (by assumption) (by decide) | exact room0 (by assumption) | exact room3 (by assumption) (by decide) | exact room4 (by assumption) (by decide)))
  k_with "ktr_units" => (((try dsimp only [units_under_make, units_in1, units_deeper, Around.mark_units]); first | exact room1 (by assumption) (by decide) | exact room2 (by assumption) (by decide) | exact room0 (by assumption) | exact room3 (by assumption) (by decide) | exact room4 (by assumption) (by decide)))
  k_with "k_ne" => ((refine neN ?_; (try dsimp only); first | assumption | exact Ne.symm (by assumption) | exact Nat.ne_of_gt (by assumption) | exact Nat.ne_of_lt (by assumption) | exact neP1 (by assumption) | exact neP2 (by assumption) | exact neP3 (by assumption) | exact neP4 (by assumption) | exact neP5 (by assumption)))
  k_with "k_all" => (assumption)
  k_with "execs cons" => (((with_reducible show wpAny _ _ _ _ _ (PySem.Shared.mk _ _ _ (_ + 1) _)); refine genToks ?_; intro tk9zz))
  k_with "eval Constant int" => ((refine constG ?_; intro t9zz tk9zz))
  k_with "ke_room" => (ktr_units)
  k_with "k_room" => (((try simp only [depth_under_make, depth_under_kw, depth_in1]); ktr_room))
  k_with "binaryOp FloorDiv int int" => ((k_here; refine floordiv_int (by split <;> (first | lia | omega)) ?_ (Or.inl (noPyl (by split <;> (first | lia | omega))))))
  k_with "spliced" => first | ((with_reducible show wpAny _ _ (spliced (backTo _ (starEach [PySem.Expr.Name _ _] _))) _ _ _); k_dflt (refine' argsN ?hF ?h0 rfl rfl rfl ?_; (case hF => k_asm); (case h0 => exact rfl); k_whole)) | ((with_reducible show wpAny _ _ (spliced (backTo _ (starEach [PySem.Expr.Constant (Const.int _) _ _] _))) _ _ _); refine argsC ?_; intro t9 tk9) | ((with_reducible show wpAny _ _ (spliced (backTo _ (starEach [PySem.Expr.Name _ _, PySem.Expr.Name _ _] _))) _ _ _); k_dflt (refine' argsNN ?hF ?h0 ?h1 rfl rfl rfl rfl rfl ?_; (case hF => k_asm); (case h0 => exact rfl); (case h1 => exact rfl); k_whole)) | ((with_reducible show wpAny _ _ (spliced (backTo _ (starEach [PySem.Expr.Name _ _, PySem.Expr.Constant (Const.int _) _ _] _))) _ _ _); k_dflt (refine' argsNC ?hF ?h0 rfl rfl rfl ?_; (case hF => k_asm); (case h0 => exact rfl); k_whole); intro t9 tk9) | ((with_reducible show wpAny _ _ (spliced (backTo _ (starEach [PySem.Expr.Name _ _, PySem.Expr.Name _ _, PySem.Expr.Name _ _] _))) _ _ _); k_dflt (refine' argsNNN ?hF ?h0 ?h1 ?h2 rfl rfl rfl rfl rfl rfl rfl ?_; (case hF => k_asm); (case h0 => exact rfl); (case h1 => exact rfl); (case h2 => exact rfl); k_whole))
  k_with "isTrue Compare" => ((with_reducible show wpAny _ _ (isTrue (PySem.Expr.Compare (PySem.Expr.Name _ _) [_] [PySem.Expr.Constant (Const.int _) _ _] _) _ _) _ _ _); k_dflt (refine' tsNC ?hF ?h0 ?hc rfl rfl rfl ?_; (case hF => k_asm); (case h0 => exact rfl); (case hc => exact rfl); k_whole); intro tk9)
  k_with "execs cons" => first | ((with_reducible show wpAny _ _ _ _ _ (PySem.Shared.mk _ _ _ (_ + 1) _)); refine genToks ?_; intro tk9) | (refine consQ ?_; intro q9)
  k_with "flowQ" => first | (refine flow_next ?_) | (refine flow_ret ?_)
  k_with "isTrue Compare" => ((with_reducible show wpAny _ _ (isTrue (Expr.Compare (Expr.Name _ _) [CmpOp.In] [Expr.List _ _] _) _ _) _ _ _); k_dflt (refine' inT (b := ?zb) ?ze ?zh ?zF ?zN ?zm ?zk ?zx ?zd ?zl ?_; (case ze => (repeat' constructor)); (case zF => k_asm); (case zN => k_asm); (case zm => exact rfl); (case zh => first | assumption | exact rfl); (case zk => exact rfl); (case zx => exact rfl); (case zd => decide); (case zl => decide); k_whole; intro h9 tk9 F9 N9; (try k_sweep)))
  k_steps
  all_goals (
    rename News _ _ _ _ => kN
    first
      | exact hret _ _ _ _ (by k_asm) (due_take (rest := (S, listOf vs.toArray k) :: news) kN (by intro p hp; first | exact hp | exact List.Mem.tail _ hp | exact List.Mem.tail _ (List.Mem.tail _ hp) | exact List.Mem.tail _ (List.Mem.tail _ (List.Mem.tail _ hp)) | exact List.Mem.tail _ (List.Mem.tail _ (List.Mem.tail _ (List.Mem.tail _ hp))) | exact List.Mem.tail _ (List.Mem.tail _ (List.Mem.tail _ (List.Mem.tail _ (List.Mem.tail _ hp)))) | exact List.Mem.tail _ (List.Mem.tail _ (List.Mem.tail _ (List.Mem.tail _ (List.Mem.tail _ (List.Mem.tail _ hp))))) | exact List.Mem.tail _ (List.Mem.tail _ (List.Mem.tail _ (List.Mem.tail _ (List.Mem.tail _ (List.Mem.tail _ (List.Mem.tail _ hp)))))) | exact List.Mem.tail _ (List.Mem.tail _ (List.Mem.tail _ (List.Mem.tail _ (List.Mem.tail _ (List.Mem.tail _ (List.Mem.tail _ (List.Mem.tail _ hp))))))) | (simp only [List.mem_cons] at hp ⊢; rcases hp with hp | hp <;> simp [hp]))) (by exact ⟨_, [], _, rfl, .nil, rfl⟩)
  )
theorem mv36 (zs : List Int) (h0 : 0 < zs.length) (hl : zs.length ≤ 8) (hdec : decide (zs = []) = false) : MvR w mean mg mb 36 zs (if zs.length < 8 then some (zs ++ [(zs.length : Int)]) else none) := by
  intro tc S vs k news hv hS
  have hl2 := hv.length
  refine CbM_mk ?_; intro dpY unY gdY cnY csY acY ccY clY ouY a0Y baY h0Y LY mY shY sgY sdY skY soY QY EY aB aF aX aN aT akY adY auY hret
  k_dflt cell_enter
  k_with_none
  k_with "cell_enter" => ((refine' enterM ?k1 ?k2 ?k3 ?k4 ?k5 ?kA ?kF ?kK ?k6 ?k7 ?k8 ?k9 ?kB ?_ ?c2 ?c3 ?c4 ?c5; (case kA => exact rfl); (case kF => exact rfl); (case kK => assumption); (case k1 => k_asm); (case k2 => k_asm); (case k3 => k_asm); (case k4 => k_asm); (case k5 => k_asm); (case k6 => k_is); (case k7 => k_is); (case k8 => first | ktr_room | k_room); (case k9 => first | exact BindsTo.of_eq rfl | exact binds_K (by k_in) rfl (by k_is) rfl rfl rfl); (case c5 => decide); (case kB => exact locs rfl); (case c2 => exact rfl); (case c3 => exact rfl); (case c4 => exact rfl); k_whole; intro mqzz gqzz Lqzz hqzz tqzz FGqzz Fqzz Nqzz Bqzz Xqzz Tqzz qkqzz ekqzz))
  k_with "storeName" => ((k_dflt (refine' storeL ?F ?N ?a ?b ?_; (case F => k_asm); (case N => k_asm); (case a => rfl); (case b => rfl); k_whole; intro mszz hszz tszz Fszz Nszz; (try k_sweep))))
  k_with "leaveF" => ((k_dflt (first | (refine' leaveF_ret ?k1 ?k2 ?_; (case k1 => k_asm); (case k2 => k_asm); k_whole) | (refine' leaveF_next ?k1 ?k2 ?_; (case k1 => k_asm); (case k2 => k_asm); k_whole)); intro kFlzz kNlzz; ground_anew kFlzz))
  k_with "ktr_room" => (((try dsimp only [depth_under_make, depth_under_kw, depth_in1, depth_deeper]); first | exact room1 (by assumption) (by decide) | exact room2 (by assumption) (by decide) | exact room0 (by assumption) | exact room3 (by assumption) (by decide) | exact room4 (by assumption) (by decide)))
  k_with "ktr_units" => (((try dsimp only [units_under_make, units_in1, units_deeper, Around.mark_units]); first | exact room1 (by assumption) (by decide) | exact room2 (by assumption) (by decide) | exact room0 (by assumption) | exact room3 (by assumption) (by decide) | exact room4 (by assumption) (by decide)))
  k_with "k_ne" => ((refine neN ?_; (try dsimp only); first | assumption | exact Ne.symm (by assumption) | exact Nat.ne_of_gt (by assumption) | exact Nat.ne_of_lt (by assumption) | exact neP1 (by assumption) | exact neP2 (by assumption) | exact neP3 (by assumption) | exact neP4 (by assumption) | exact neP5 (by assumption)))
  k_with "k_all" => (assumption)
  k_with "execs cons" => (((with_reducible show wpAny _ _ _ _ _ (PySem.Shared.mk _ _ _ (_ + 1) _)); refine genToks ?_; intro tk9zz))
  k_with "eval Constant int" => ((refine constG ?_; intro t9zz tk9zz))
  k_with "ke_room" => (ktr_units)
  k_with "k_room" => (((try simp only [depth_under_make, depth_under_kw, depth_in1]); ktr_room))
  k_with "binaryOp FloorDiv int int" => ((k_here; refine floordiv_int (by split <;> (first | lia | omega)) ?_ (Or.inl (noPyl (by split <;> (first | lia | omega))))))
  k_with "spliced" => first | ((with_reducible show wpAny _ _ (spliced (backTo _ (starEach [PySem.Expr.Name _ _] _))) _ _ _); k_dflt (refine' argsN ?hF ?h0 rfl rfl rfl ?_; (case hF => k_asm); (case h0 => exact rfl); k_whole)) | ((with_reducible show wpAny _ _ (spliced (backTo _ (starEach [PySem.Expr.Constant (Const.int _) _ _] _))) _ _ _); refine argsC ?_; intro t9 tk9) | ((with_reducible show wpAny _ _ (spliced (backTo _ (starEach [PySem.Expr.Name _ _, PySem.Expr.Name _ _] _))) _ _ _); k_dflt (refine' argsNN ?hF ?h0 ?h1 rfl rfl rfl rfl rfl ?_; (case hF => k_asm); (case h0 => exact rfl); (case h1 => exact rfl); k_whole)) | ((with_reducible show wpAny _ _ (spliced (backTo _ (starEach [PySem.Expr.Name _ _, PySem.Expr.Constant (Const.int _) _ _] _))) _ _ _); k_dflt (refine' argsNC ?hF ?h0 rfl rfl rfl ?_; (case hF => k_asm); (case h0 => exact rfl); k_whole); intro t9 tk9) | ((with_reducible show wpAny _ _ (spliced (backTo _ (starEach [PySem.Expr.Name _ _, PySem.Expr.Name _ _, PySem.Expr.Name _ _] _))) _ _ _); k_dflt (refine' argsNNN ?hF ?h0 ?h1 ?h2 rfl rfl rfl rfl rfl rfl rfl ?_; (case hF => k_asm); (case h0 => exact rfl); (case h1 => exact rfl); (case h2 => exact rfl); k_whole))
  k_with "isTrue Compare" => ((with_reducible show wpAny _ _ (isTrue (PySem.Expr.Compare (PySem.Expr.Name _ _) [_] [PySem.Expr.Constant (Const.int _) _ _] _) _ _) _ _ _); k_dflt (refine' tsNC ?hF ?h0 ?hc rfl rfl rfl ?_; (case hF => k_asm); (case h0 => exact rfl); (case hc => exact rfl); k_whole); intro tk9)
  k_with "execs cons" => first | ((with_reducible show wpAny _ _ _ _ _ (PySem.Shared.mk _ _ _ (_ + 1) _)); refine genToks ?_; intro tk9) | (refine consQ ?_; intro q9)
  k_with "flowQ" => first | (refine flow_next ?_) | (refine flow_ret ?_)
  k_with "isTrue Compare" => ((with_reducible show wpAny _ _ (isTrue (Expr.Compare (Expr.Name _ _) [CmpOp.In] [Expr.List _ _] _) _ _) _ _ _); k_dflt (refine' inT (b := ?zb) ?ze ?zh ?zF ?zN ?zm ?zk ?zx ?zd ?zl ?_; (case ze => (repeat' constructor)); (case zF => k_asm); (case zN => k_asm); (case zm => exact rfl); (case zh => first | assumption | exact rfl); (case zk => exact rfl); (case zx => exact rfl); (case zd => decide); (case zl => decide); k_whole; intro h9 tk9 F9 N9; (try k_sweep)))
  k_steps
  all_goals (
    rename News _ _ _ _ => kN
    first
      | (rename IntsAre _ _ => kI; exact hret _ _ _ _ (by k_asm) (due_take (rest := (S, listOf vs.toArray k) :: news) kN (by intro p hp; first | exact hp | exact List.Mem.tail _ hp | exact List.Mem.tail _ (List.Mem.tail _ hp) | exact List.Mem.tail _ (List.Mem.tail _ (List.Mem.tail _ hp)) | exact List.Mem.tail _ (List.Mem.tail _ (List.Mem.tail _ (List.Mem.tail _ hp))) | exact List.Mem.tail _ (List.Mem.tail _ (List.Mem.tail _ (List.Mem.tail _ (List.Mem.tail _ hp)))) | exact List.Mem.tail _ (List.Mem.tail _ (List.Mem.tail _ (List.Mem.tail _ (List.Mem.tail _ (List.Mem.tail _ hp))))) | exact List.Mem.tail _ (List.Mem.tail _ (List.Mem.tail _ (List.Mem.tail _ (List.Mem.tail _ (List.Mem.tail _ (List.Mem.tail _ hp)))))) | exact List.Mem.tail _ (List.Mem.tail _ (List.Mem.tail _ (List.Mem.tail _ (List.Mem.tail _ (List.Mem.tail _ (List.Mem.tail _ (List.Mem.tail _ hp))))))) | (simp only [List.mem_cons] at hp ⊢; rcases hp with hp | hp <;> simp [hp]))) (by first | exact ⟨_, _, _, rfl, kI, rfl⟩ | (rw [if_pos (show zs.length < 8 by (first | lia | omega))]; exact ⟨_, _, _, rfl, kI, rfl⟩)))
      | (refine hret _ ((S, listOf vs.toArray k) :: news) _ _ (by k_asm) (kst_newsOf kN ?qs9) ?qp9; (case qp9 => first | exact ⟨rfl, rfl⟩ | (rw [if_neg (show ¬ (zs.length < 8) by (first | lia | omega))]; exact ⟨rfl, rfl⟩)); (case qs9 => exact (by intro p hp; first | exact hp | exact List.Mem.tail _ hp | exact List.Mem.tail _ (List.Mem.tail _ hp) | exact List.Mem.tail _ (List.Mem.tail _ (List.Mem.tail _ hp)) | exact List.Mem.tail _ (List.Mem.tail _ (List.Mem.tail _ (List.Mem.tail _ hp))) | exact List.Mem.tail _ (List.Mem.tail _ (List.Mem.tail _ (List.Mem.tail _ (List.Mem.tail _ hp)))) | exact List.Mem.tail _ (List.Mem.tail _ (List.Mem.tail _ (List.Mem.tail _ (List.Mem.tail _ (List.Mem.tail _ hp))))) | exact List.Mem.tail _ (List.Mem.tail _ (List.Mem.tail _ (List.Mem.tail _ (List.Mem.tail _ (List.Mem.tail _ (List.Mem.tail _ hp)))))) | exact List.Mem.tail _ (List.Mem.tail _ (List.Mem.tail _ (List.Mem.tail _ (List.Mem.tail _ (List.Mem.tail _ (List.Mem.tail _ (List.Mem.tail _ hp))))))) | (simp only [List.mem_cons] at hp ⊢; rcases hp with hp | hp <;> simp [hp]))))
  )
theorem mv35 (zs : List Int) (h0 : 0 < zs.length) (hl : zs.length ≤ 8) (hdec : decide (zs = []) = false) : MvR w mean mg mb 35 zs (if 1 < zs.length then some (zs.take (zs.length - 2) ++ [zs.getD (-1 + (zs.length : Int)).toNat 0, zs.getD (-2 + (zs.length : Int)).toNat 0]) else none) := by
  intro tc S vs k news hv hS
  have hl2 := hv.length
  refine CbM_mk ?_; intro dpY unY gdY cnY csY acY ccY clY ouY a0Y baY h0Y LY mY shY sgY sdY skY soY QY EY aB aF aX aN aT akY adY auY hret
  k_dflt cell_enter
  k_with_none
  k_with "cell_enter" => ((refine' enterM ?k1 ?k2 ?k3 ?k4 ?k5 ?kA ?kF ?kK ?k6 ?k7 ?k8 ?k9 ?kB ?_ ?c2 ?c3 ?c4 ?c5; (case kA => exact rfl); (case kF => exact rfl); (case kK => assumption); (case k1 => k_asm); (case k2 => k_asm); (case k3 => k_asm); (case k4 => k_asm); (case k5 => k_asm); (case k6 => k_is); (case k7 => k_is); (case k8 => first | ktr_room | k_room); (case k9 => first | exact BindsTo.of_eq rfl | exact binds_K (by k_in) rfl (by k_is) rfl rfl rfl); (case c5 => decide); (case kB => exact locs rfl); (case c2 => exact rfl); (case c3 => exact rfl); (case c4 => exact rfl); k_whole; intro mqzz gqzz Lqzz hqzz tqzz FGqzz Fqzz Nqzz Bqzz Xqzz Tqzz qkqzz ekqzz))
  k_with "storeName" => ((k_dflt (refine' storeL ?F ?N ?a ?b ?_; (case F => k_asm); (case N => k_asm); (case a => rfl); (case b => rfl); k_whole; intro mszz hszz tszz Fszz Nszz; (try k_sweep))))
  k_with "leaveF" => ((k_dflt (first | (refine' leaveF_ret ?k1 ?k2 ?_; (case k1 => k_asm); (case k2 => k_asm); k_whole) | (refine' leaveF_next ?k1 ?k2 ?_; (case k1 => k_asm); (case k2 => k_asm); k_whole)); intro kFlzz kNlzz; ground_anew kFlzz))
  k_with "ktr_room" => (((try dsimp only [depth_under_make, depth_under_kw, depth_in1, depth_deeper]); first | exact room1 (by assumption) (by decide) | exact room2 (by assumption) (by decide) | exact room0 (by assumption) | exact room3 (by assumption) (by decide) | exact room4 (by assumption) (by decide)))
  k_with "ktr_units" => (((try dsimp only [units_under_make, units_in1, units_deeper, Around.mark_units]); first | exact room1 (by assumption) (by decide) | exact room2 (by assumption) (by decide) | exact room0 (by assumption) | exact room3 (by assumption) (by decide) | exact room4 (by assumption) (by decide)))
  k_with "k_ne" => ((refine neN ?_; (try dsimp only); first | assumption | exact Ne.symm (by assumption) | exact Nat.ne_of_gt (by assumption) | exact Nat.ne_of_lt (by assumption) | exact neP1 (by assumption) | exact neP2 (by assumption) | exact neP3 (by assumption) | exact neP4 (by assumption) | exact neP5 (by assumption)))
  k_with "k_all" => (assumption)
  k_with "execs cons" => (((with_reducible show wpAny _ _ _ _ _ (PySem.Shared.mk _ _ _ (_ + 1) _)); refine genToks ?_; intro tk9zz))
  k_with "eval Constant int" => ((refine constG ?_; intro t9zz tk9zz))
  k_with "ke_room" => (ktr_units)
  k_with "k_room" => (((try simp only [depth_under_make, depth_under_kw, depth_in1]); ktr_room))
  k_with "binaryOp FloorDiv int int" => ((k_here; refine floordiv_int (by split <;> (first | lia | omega)) ?_ (Or.inl (noPyl (by split <;> (first | lia | omega))))))
  k_with "spliced" => first | ((with_reducible show wpAny _ _ (spliced (backTo _ (starEach [PySem.Expr.Name _ _] _))) _ _ _); k_dflt (refine' argsN ?hF ?h0 rfl rfl rfl ?_; (case hF => k_asm); (case h0 => exact rfl); k_whole)) | ((with_reducible show wpAny _ _ (spliced (backTo _ (starEach [PySem.Expr.Constant (Const.int _) _ _] _))) _ _ _); refine argsC ?_; intro t9 tk9) | ((with_reducible show wpAny _ _ (spliced (backTo _ (starEach [PySem.Expr.Name _ _, PySem.Expr.Name _ _] _))) _ _ _); k_dflt (refine' argsNN ?hF ?h0 ?h1 rfl rfl rfl rfl rfl ?_; (case hF => k_asm); (case h0 => exact rfl); (case h1 => exact rfl); k_whole)) | ((with_reducible show wpAny _ _ (spliced (backTo _ (starEach [PySem.Expr.Name _ _, PySem.Expr.Constant (Const.int _) _ _] _))) _ _ _); k_dflt (refine' argsNC ?hF ?h0 rfl rfl rfl ?_; (case hF => k_asm); (case h0 => exact rfl); k_whole); intro t9 tk9) | ((with_reducible show wpAny _ _ (spliced (backTo _ (starEach [PySem.Expr.Name _ _, PySem.Expr.Name _ _, PySem.Expr.Name _ _] _))) _ _ _); k_dflt (refine' argsNNN ?hF ?h0 ?h1 ?h2 rfl rfl rfl rfl rfl rfl rfl ?_; (case hF => k_asm); (case h0 => exact rfl); (case h1 => exact rfl); (case h2 => exact rfl); k_whole))
  k_with "isTrue Compare" => ((with_reducible show wpAny _ _ (isTrue (PySem.Expr.Compare (PySem.Expr.Name _ _) [_] [PySem.Expr.Constant (Const.int _) _ _] _) _ _) _ _ _); k_dflt (refine' tsNC ?hF ?h0 ?hc rfl rfl rfl ?_; (case hF => k_asm); (case h0 => exact rfl); (case hc => exact rfl); k_whole); intro tk9)
  k_with "execs cons" => first | ((with_reducible show wpAny _ _ _ _ _ (PySem.Shared.mk _ _ _ (_ + 1) _)); refine genToks ?_; intro tk9) | (refine consQ ?_; intro q9)
  k_with "flowQ" => first | (refine flow_next ?_) | (refine flow_ret ?_)
  k_with "isTrue Compare" => ((with_reducible show wpAny _ _ (isTrue (Expr.Compare (Expr.Name _ _) [CmpOp.In] [Expr.List _ _] _) _ _) _ _ _); k_dflt (refine' inT (b := ?zb) ?ze ?zh ?zF ?zN ?zm ?zk ?zx ?zd ?zl ?_; (case ze => (repeat' constructor)); (case zF => k_asm); (case zN => k_asm); (case zm => exact rfl); (case zh => first | assumption | exact rfl); (case zk => exact rfl); (case zx => exact rfl); (case zd => decide); (case zl => decide); k_whole; intro h9 tk9 F9 N9; (try k_sweep)))
  k_steps
  all_goals (
    rename News _ _ _ _ => kN
    first
      | (rename IntsAre _ _ => kI; exact hret _ _ _ _ (by k_asm) (due_take (rest := (S, listOf vs.toArray k) :: news) kN (by intro p hp; first | exact hp | exact List.Mem.tail _ hp | exact List.Mem.tail _ (List.Mem.tail _ hp) | exact List.Mem.tail _ (List.Mem.tail _ (List.Mem.tail _ hp)) | exact List.Mem.tail _ (List.Mem.tail _ (List.Mem.tail _ (List.Mem.tail _ hp))) | exact List.Mem.tail _ (List.Mem.tail _ (List.Mem.tail _ (List.Mem.tail _ (List.Mem.tail _ hp)))) | exact List.Mem.tail _ (List.Mem.tail _ (List.Mem.tail _ (List.Mem.tail _ (List.Mem.tail _ (List.Mem.tail _ hp))))) | exact List.Mem.tail _ (List.Mem.tail _ (List.Mem.tail _ (List.Mem.tail _ (List.Mem.tail _ (List.Mem.tail _ (List.Mem.tail _ hp)))))) | exact List.Mem.tail _ (List.Mem.tail _ (List.Mem.tail _ (List.Mem.tail _ (List.Mem.tail _ (List.Mem.tail _ (List.Mem.tail _ (List.Mem.tail _ hp))))))) | (simp only [List.mem_cons] at hp ⊢; rcases hp with hp | hp <;> simp [hp]))) (by first | exact ⟨_, _, _, rfl, kI, rfl⟩ | (rw [if_pos (show 1 < zs.length by (first | lia | omega))]; exact ⟨_, _, _, rfl, kI, rfl⟩)))
      | (refine hret _ ((S, listOf vs.toArray k) :: news) _ _ (by k_asm) (kst_newsOf kN ?qs9) ?qp9; (case qp9 => first | exact ⟨rfl, rfl⟩ | (rw [if_neg (show ¬ (1 < zs.length) by (first | lia | omega))]; exact ⟨rfl, rfl⟩)); (case qs9 => exact (by intro p hp; first | exact hp | exact List.Mem.tail _ hp | exact List.Mem.tail _ (List.Mem.tail _ hp) | exact List.Mem.tail _ (List.Mem.tail _ (List.Mem.tail _ hp)) | exact List.Mem.tail _ (List.Mem.tail _ (List.Mem.tail _ (List.Mem.tail _ hp))) | exact List.Mem.tail _ (List.Mem.tail _ (List.Mem.tail _ (List.Mem.tail _ (List.Mem.tail _ hp)))) | exact List.Mem.tail _ (List.Mem.tail _ (List.Mem.tail _ (List.Mem.tail _ (List.Mem.tail _ (List.Mem.tail _ hp))))) | exact List.Mem.tail _ (List.Mem.tail _ (List.Mem.tail _ (List.Mem.tail _ (List.Mem.tail _ (List.Mem.tail _ (List.Mem.tail _ hp)))))) | exact List.Mem.tail _ (List.Mem.tail _ (List.Mem.tail _ (List.Mem.tail _ (List.Mem.tail _ (List.Mem.tail _ (List.Mem.tail _ (List.Mem.tail _ hp))))))) | (simp only [List.mem_cons] at hp ⊢; rcases hp with hp | hp <;> simp [hp]))))
  )
theorem mv138 (zs : List Int) (h0 : 0 < zs.length) (hl : zs.length ≤ 8) (hdec : decide (zs = []) = false) : MvR w mean mg mb 138 zs (if 2 < zs.length then some (zs.take (zs.length - 3) ++ [zs.getD (-2 + (zs.length : Int)).toNat 0, zs.getD (-1 + (zs.length : Int)).toNat 0, zs.getD (-3 + (zs.length : Int)).toNat 0]) else none) := by
  intro tc S vs k news hv hS
  have hl2 := hv.length
  refine CbM_mk ?_; intro dpY unY gdY cnY csY acY ccY clY ouY a0Y baY h0Y LY mY shY sgY sdY skY soY QY EY aB aF aX aN aT akY adY auY hret
  k_dflt cell_enter
  k_with_none
  k_with "cell_enter" => ((refine' enterM ?k1 ?k2 ?k3 ?k4 ?k5 ?kA ?kF ?kK ?k6 ?k7 ?k8 ?k9 ?kB ?_ ?c2 ?c3 ?c4 ?c5; (case kA => exact rfl); (case kF => exact rfl); (case kK => assumption); (case k1 => k_asm); (case k2 => k_asm); (case k3 => k_asm); (case k4 => k_asm); (case k5 => k_asm); (case k6 => k_is); (case k7 => k_is); (case k8 => first | ktr_room | k_room); (case k9 => first | exact BindsTo.of_eq rfl | exact binds_K (by k_in) rfl (by k_is) rfl rfl rfl); (case c5 => decide); (case kB => exact locs rfl); (case c2 => exact rfl); (case c3 => exact rfl); (case c4 => exact rfl); k_whole; intro mqzz gqzz Lqzz hqzz tqzz FGqzz Fqzz Nqzz Bqzz Xqzz Tqzz qkqzz ekqzz))
  k_with "storeName" => ((k_dflt (refine' storeL ?F ?N ?a ?b ?_; (case F => k_asm); (case N => k_asm); (case a => rfl); (case b => rfl); k_whole; intro mszz hszz tszz Fszz Nszz; (try k_sweep))))
  k_with "leaveF" => ((k_dflt (first | (refine' leaveF_ret ?k1 ?k2 ?_; (case k1 => k_asm); (case k2 => k_asm); k_whole) | (refine' leaveF_next ?k1 ?k2 ?_; (case k1 => k_asm); (case k2 => k_asm); k_whole)); intro kFlzz kNlzz; ground_anew kFlzz))
  k_with "ktr_room" => (((try dsimp only [depth_under_make, depth_under_kw, depth_in1, depth_deeper]); first | exact room1 (by assumption) (by decide) | exact room2 (by assumption) (by decide) | exact room0 (by assumption) | exact room3 (by assumption) (by decide) | exact room4 (by assumption) (by decide)))
  k_with "ktr_units" => (((try dsimp only [units_under_make, units_in1, units_deeper, Around.mark_units]); first | exact room1 (by assumption) (by decide) | exact room2 (by assumption) (by decide) | exact room0 (by assumption) | exact room3 (by assumption) (by decide) | exact room4 (by assumption) (by decide)))
  k_with "k_ne" => ((refine neN ?_; (try dsimp only); first | assumption | exact Ne.symm (by assumption) | exact Nat.ne_of_gt (by assumption) | exact Nat.ne_of_lt (by assumption) | exact neP1 (by assumption) | exact neP2 (by assumption) | exact neP3 (by assumption) | exact neP4 (by assumption) | exact neP5 (by assumption)))
  k_with "k_all" => (assumption)
  k_with "execs cons" => (((with_reducible show wpAny _ _ _ _ _ (PySem.Shared.mk _ _ _ (_ + 1) _)); refine genToks ?_; intro tk9zz))
  k_with "eval Constant int" => ((refine constG ?_; intro t9zz tk9zz))
  k_with "ke_room" => (ktr_units)
  k_with "k_room" => (((try simp only [depth_under_make, depth_under_kw, depth_in1]); ktr_room))
  k_with "binaryOp FloorDiv int int" => ((k_here; refine floordiv_int (by split <;> (first | lia | omega)) ?_ (Or.inl (noPyl (by split <;> (first | lia | omega))))))
  k_with "spliced" => first | ((with_reducible show wpAny _ _ (spliced (backTo _ (starEach [PySem.Expr.Name _ _] _))) _ _ _); k_dflt (refine' argsN ?hF ?h0 rfl rfl rfl ?_; (case hF => k_asm); (case h0 => exact rfl); k_whole)) | ((with_reducible show wpAny _ _ (spliced (backTo _ (starEach [PySem.Expr.Constant (Const.int _) _ _] _))) _ _ _); refine argsC ?_; intro t9 tk9) | ((with_reducible show wpAny _ _ (spliced (backTo _ (starEach [PySem.Expr.Name _ _, PySem.Expr.Name _ _] _))) _ _ _); k_dflt (refine' argsNN ?hF ?h0 ?h1 rfl rfl rfl rfl rfl ?_; (case hF => k_asm); (case h0 => exact rfl); (case h1 => exact rfl); k_whole)) | ((with_reducible show wpAny _ _ (spliced (backTo _ (starEach [PySem.Expr.Name _ _, PySem.Expr.Constant (Const.int _) _ _] _))) _ _ _); k_dflt (refine' argsNC ?hF ?h0 rfl rfl rfl ?_; (case hF => k_asm); (case h0 => exact rfl); k_whole); intro t9 tk9) | ((with_reducible show wpAny _ _ (spliced (backTo _ (starEach [PySem.Expr.Name _ _, PySem.Expr.Name _ _, PySem.Expr.Name _ _] _))) _ _ _); k_dflt (refine' argsNNN ?hF ?h0 ?h1 ?h2 rfl rfl rfl rfl rfl rfl rfl ?_; (case hF => k_asm); (case h0 => exact rfl); (case h1 => exact rfl); (case h2 => exact rfl); k_whole))
  k_with "isTrue Compare" => ((with_reducible show wpAny _ _ (isTrue (PySem.Expr.Compare (PySem.Expr.Name _ _) [_] [PySem.Expr.Constant (Const.int _) _ _] _) _ _) _ _ _); k_dflt (refine' tsNC ?hF ?h0 ?hc rfl rfl rfl ?_; (case hF => k_asm); (case h0 => exact rfl); (case hc => exact rfl); k_whole); intro tk9)
  k_with "execs cons" => first | ((with_reducible show wpAny _ _ _ _ _ (PySem.Shared.mk _ _ _ (_ + 1) _)); refine genToks ?_; intro tk9) | (refine consQ ?_; intro q9)
  k_with "flowQ" => first | (refine flow_next ?_) | (refine flow_ret ?_)
  k_with "isTrue Compare" => ((with_reducible show wpAny _ _ (isTrue (Expr.Compare (Expr.Name _ _) [CmpOp.In] [Expr.List _ _] _) _ _) _ _ _); k_dflt (refine' inT (b := ?zb) ?ze ?zh ?zF ?zN ?zm ?zk ?zx ?zd ?zl ?_; (case ze => (repeat' constructor)); (case zF => k_asm); (case zN => k_asm); (case zm => exact rfl); (case zh => first | assumption | exact rfl); (case zk => exact rfl); (case zx => exact rfl); (case zd => decide); (case zl => decide); k_whole; intro h9 tk9 F9 N9; (try k_sweep)))
  k_steps
  all_goals (
    rename News _ _ _ _ => kN
    first
      | (rename IntsAre _ _ => kI; exact hret _ _ _ _ (by k_asm) (due_take (rest := (S, listOf vs.toArray k) :: news) kN (by intro p hp; first | exact hp | exact List.Mem.tail _ hp | exact List.Mem.tail _ (List.Mem.tail _ hp) | exact List.Mem.tail _ (List.Mem.tail _ (List.Mem.tail _ hp)) | exact List.Mem.tail _ (List.Mem.tail _ (List.Mem.tail _ (List.Mem.tail _ hp))) | exact List.Mem.tail _ (List.Mem.tail _ (List.Mem.tail _ (List.Mem.tail _ (List.Mem.tail _ hp)))) | exact List.Mem.tail _ (List.Mem.tail _ (List.Mem.tail _ (List.Mem.tail _ (List.Mem.tail _ (List.Mem.tail _ hp))))) | exact List.Mem.tail _ (List.Mem.tail _ (List.Mem.tail _ (List.Mem.tail _ (List.Mem.tail _ (List.Mem.tail _ (List.Mem.tail _ hp)))))) | exact List.Mem.tail _ (List.Mem.tail _ (List.Mem.tail _ (List.Mem.tail _ (List.Mem.tail _ (List.Mem.tail _ (List.Mem.tail _ (List.Mem.tail _ hp))))))) | (simp only [List.mem_cons] at hp ⊢; rcases hp with hp | hp <;> simp [hp]))) (by first | exact ⟨_, _, _, rfl, kI, rfl⟩ | (rw [if_pos (show 2 < zs.length by (first | lia | omega))]; exact ⟨_, _, _, rfl, kI, rfl⟩)))
      | (refine hret _ ((S, listOf vs.toArray k) :: news) _ _ (by k_asm) (kst_newsOf kN ?qs9) ?qp9; (case qp9 => first | exact ⟨rfl, rfl⟩ | (rw [if_neg (show ¬ (2 < zs.length) by (first | lia | omega))]; exact ⟨rfl, rfl⟩)); (case qs9 => exact (by intro p hp; first | exact hp | exact List.Mem.tail _ hp | exact List.Mem.tail _ (List.Mem.tail _ hp) | exact List.Mem.tail _ (List.Mem.tail _ (List.Mem.tail _ hp)) | exact List.Mem.tail _ (List.Mem.tail _ (List.Mem.tail _ (List.Mem.tail _ hp))) | exact List.Mem.tail _ (List.Mem.tail _ (List.Mem.tail _ (List.Mem.tail _ (List.Mem.tail _ hp)))) | exact List.Mem.tail _ (List.Mem.tail _ (List.Mem.tail _ (List.Mem.tail _ (List.Mem.tail _ (List.Mem.tail _ hp))))) | exact List.Mem.tail _ (List.Mem.tail _ (List.Mem.tail _ (List.Mem.tail _ (List.Mem.tail _ (List.Mem.tail _ (List.Mem.tail _ hp)))))) | exact List.Mem.tail _ (List.Mem.tail _ (List.Mem.tail _ (List.Mem.tail _ (List.Mem.tail _ (List.Mem.tail _ (List.Mem.tail _ (List.Mem.tail _ hp))))))) | (simp only [List.mem_cons] at hp ⊢; rcases hp with hp | hp <;> simp [hp]))))
  )
theorem mv_out (c : Int) (n1 : (c == 32) = false) (n2 : (c == 34) = false) (n3 : (c == 36) = false) (n4 : (c == 35) = false) (n5 : (c == 138) = false) (xs : List Int) (y : Int) (hl : xs.length ≤ 7) (hy : -(2^31) ≤ y ∧ y ≤ 2^31) (hx : y < 1 ∨ (xs.length : Int) < y) : MvR w mean mg mb c (xs ++ [y]) (none) := by
  intro tc S vs k news hv hS
  have hl2 := hv.length
  refine oneE hv (fun zs hz hvN hlN hdec e2 e3 hlz => ?_)
  clear hv hl2
  have hv := hvN
  have hl2 := hlN
  clear hvN hlN
  refine CbM_mk ?_; intro dpY unY gdY cnY csY acY ccY clY ouY a0Y baY h0Y LY mY shY sgY sdY skY soY QY EY aB aF aX aN aT akY adY auY hret
  k_dflt cell_enter
  k_with_none
  k_with "cell_enter" => ((refine' enterM ?k1 ?k2 ?k3 ?k4 ?k5 ?kA ?kF ?kK ?k6 ?k7 ?k8 ?k9 ?kB ?_ ?c2 ?c3 ?c4 ?c5; (case kA => exact rfl); (case kF => exact rfl); (case kK => assumption); (case k1 => k_asm); (case k2 => k_asm); (case k3 => k_asm); (case k4 => k_asm); (case k5 => k_asm); (case k6 => k_is); (case k7 => k_is); (case k8 => first | ktr_room | k_room); (case k9 => first | exact BindsTo.of_eq rfl | exact binds_K (by k_in) rfl (by k_is) rfl rfl rfl); (case c5 => decide); (case kB => exact locs rfl); (case c2 => exact rfl); (case c3 => exact rfl); (case c4 => exact rfl); k_whole; intro mqzz gqzz Lqzz hqzz tqzz FGqzz Fqzz Nqzz Bqzz Xqzz Tqzz qkqzz ekqzz))
  k_with "storeName" => ((k_dflt (refine' storeL ?F ?N ?a ?b ?_; (case F => k_asm); (case N => k_asm); (case a => rfl); (case b => rfl); k_whole; intro mszz hszz tszz Fszz Nszz; (try k_sweep))))
  k_with "leaveF" => ((k_dflt (first | (refine' leaveF_ret ?k1 ?k2 ?_; (case k1 => k_asm); (case k2 => k_asm); k_whole) | (refine' leaveF_next ?k1 ?k2 ?_; (case k1 => k_asm); (case k2 => k_asm); k_whole)); intro kFlzz kNlzz; ground_anew kFlzz))
  k_with "ktr_room" => (((try dsimp only [depth_under_make, depth_under_kw, depth_in1, depth_deeper]); first | exact room1 (by assumption) (by decide) | exact room2 (by assumption) (by decide) | exact room0 (by assumption) | exact room3 (by assumption) (by decide) | exact room4 (by assumption) (by decide)))
  k_with "ktr_units" => (((try dsimp only [units_under_make, units_in1, units_deeper, Around.mark_units]); first | exact room1 (by assumption) (by decide) | exact room2 (by assumption) (by decide) | exact room0 (by assumption) | exact room3 (by assumption) (by decide) | exact room4 (by assumption) (by decide)))
  k_with "k_ne" => ((refine neN ?_; (try dsimp only); first | assumption | exact Ne.symm (by assumption) | exact Nat.ne_of_gt (by assumption) | exact Nat.ne_of_lt (by assumption) | exact neP1 (by assumption) | exact neP2 (by assumption) | exact neP3 (by assumption) | exact neP4 (by assumption) | exact neP5 (by assumption)))
  k_with "k_all" => (assumption)
  k_with "execs cons" => (((with_reducible show wpAny _ _ _ _ _ (PySem.Shared.mk _ _ _ (_ + 1) _)); refine genToks ?_; intro tk9zz))
  k_with "eval Constant int" => ((refine constG ?_; intro t9zz tk9zz))
  k_with "ke_room" => (ktr_units)
  k_with "k_room" => (((try simp only [depth_under_make, depth_under_kw, depth_in1]); ktr_room))
  k_with "binaryOp FloorDiv int int" => ((k_here; refine floordiv_int (by split <;> (first | lia | omega)) ?_ (Or.inl (noPyl (by split <;> (first | lia | omega))))))
  k_with "spliced" => first | ((with_reducible show wpAny _ _ (spliced (backTo _ (starEach [PySem.Expr.Name _ _] _))) _ _ _); k_dflt (refine' argsN ?hF ?h0 rfl rfl rfl ?_; (case hF => k_asm); (case h0 => exact rfl); k_whole)) | ((with_reducible show wpAny _ _ (spliced (backTo _ (starEach [PySem.Expr.Constant (Const.int _) _ _] _))) _ _ _); refine argsC ?_; intro t9 tk9) | ((with_reducible show wpAny _ _ (spliced (backTo _ (starEach [PySem.Expr.Name _ _, PySem.Expr.Name _ _] _))) _ _ _); k_dflt (refine' argsNN ?hF ?h0 ?h1 rfl rfl rfl rfl rfl ?_; (case hF => k_asm); (case h0 => exact rfl); (case h1 => exact rfl); k_whole)) | ((with_reducible show wpAny _ _ (spliced (backTo _ (starEach [PySem.Expr.Name _ _, PySem.Expr.Constant (Const.int _) _ _] _))) _ _ _); k_dflt (refine' argsNC ?hF ?h0 rfl rfl rfl ?_; (case hF => k_asm); (case h0 => exact rfl); k_whole); intro t9 tk9) | ((with_reducible show wpAny _ _ (spliced (backTo _ (starEach [PySem.Expr.Name _ _, PySem.Expr.Name _ _, PySem.Expr.Name _ _] _))) _ _ _); k_dflt (refine' argsNNN ?hF ?h0 ?h1 ?h2 rfl rfl rfl rfl rfl rfl rfl ?_; (case hF => k_asm); (case h0 => exact rfl); (case h1 => exact rfl); (case h2 => exact rfl); k_whole))
  k_with "isTrue Compare" => ((with_reducible show wpAny _ _ (isTrue (PySem.Expr.Compare (PySem.Expr.Name _ _) [_] [PySem.Expr.Constant (Const.int _) _ _] _) _ _) _ _ _); k_dflt (refine' tsNC ?hF ?h0 ?hc rfl rfl rfl ?_; (case hF => k_asm); (case h0 => exact rfl); (case hc => exact rfl); k_whole); intro tk9)
  k_with "execs cons" => first | ((with_reducible show wpAny _ _ _ _ _ (PySem.Shared.mk _ _ _ (_ + 1) _)); refine genToks ?_; intro tk9) | (refine consQ ?_; intro q9)
  k_with "flowQ" => first | (refine flow_next ?_) | (refine flow_ret ?_)
  k_with "isTrue Compare" => ((with_reducible show wpAny _ _ (isTrue (Expr.Compare (Expr.Name _ _) [CmpOp.In] [Expr.List _ _] _) _ _) _ _ _); k_dflt (refine' inT (b := ?zb) ?ze ?zh ?zF ?zN ?zm ?zk ?zx ?zd ?zl ?_; (case ze => (repeat' constructor)); (case zF => k_asm); (case zN => k_asm); (case zm => exact rfl); (case zh => first | assumption | exact rfl); (case zk => exact rfl); (case zx => exact rfl); (case zd => decide); (case zl => decide); k_whole; intro h9 tk9 F9 N9; (try k_sweep)))
  k_steps
  all_goals (rename News _ _ _ _ => kN)
  all_goals exact hret _ _ _ _ (by k_asm) (kst_newsOf kN (by intro p hp; first | exact hp | exact List.Mem.tail _ hp | exact List.Mem.tail _ (List.Mem.tail _ hp) | exact List.Mem.tail _ (List.Mem.tail _ (List.Mem.tail _ hp)) | exact List.Mem.tail _ (List.Mem.tail _ (List.Mem.tail _ (List.Mem.tail _ hp))) | exact List.Mem.tail _ (List.Mem.tail _ (List.Mem.tail _ (List.Mem.tail _ (List.Mem.tail _ hp)))) | exact List.Mem.tail _ (List.Mem.tail _ (List.Mem.tail _ (List.Mem.tail _ (List.Mem.tail _ (List.Mem.tail _ hp))))) | exact List.Mem.tail _ (List.Mem.tail _ (List.Mem.tail _ (List.Mem.tail _ (List.Mem.tail _ (List.Mem.tail _ (List.Mem.tail _ hp)))))) | exact List.Mem.tail _ (List.Mem.tail _ (List.Mem.tail _ (List.Mem.tail _ (List.Mem.tail _ (List.Mem.tail _ (List.Mem.tail _ (List.Mem.tail _ hp))))))) | (simp only [List.mem_cons] at hp ⊢; rcases hp with hp | hp <;> simp [hp]))) ⟨rfl, rfl⟩
theorem mv37_out (xs : List Int) (y : Int) (hl : xs.length ≤ 7) (hy : -(2^31) ≤ y ∧ y ≤ 2^31) (hx : y < 1 ∨ (xs.length : Int) < y) : MvR w mean mg mb 37 (xs ++ [y]) (none) := mv_out 37 rfl rfl rfl rfl rfl xs y hl hy hx
theorem mv37_ok (xs : List Int) (y : Int) (hl : xs.length ≤ 7) (h1 : 1 ≤ y) (h2 : y ≤ (xs.length : Int)) : MvR w mean mg mb 37 (xs ++ [y]) (some (xs ++ [xs.getD ((xs.length : Int) - y).toNat 0])) := by
  intro tc S vs k news hv hS
  have hl2 := hv.length
  refine oneE hv (fun zs hz hvN hlN hdec e2 e3 hlz => ?_)
  clear hv hl2
  have hv := hvN
  have hl2 := hlN
  clear hvN hlN
  refine CbM_mk ?_; intro dpY unY gdY cnY csY acY ccY clY ouY a0Y baY h0Y LY mY shY sgY sdY skY soY QY EY aB aF aX aN aT akY adY auY hret
  k_dflt cell_enter
  k_with_none
  k_with "cell_enter" => ((refine' enterM ?k1 ?k2 ?k3 ?k4 ?k5 ?kA ?kF ?kK ?k6 ?k7 ?k8 ?k9 ?kB ?_ ?c2 ?c3 ?c4 ?c5; (case kA => exact rfl); (case kF => exact rfl); (case kK => assumption); (case k1 => k_asm); (case k2 => k_asm); (case k3 => k_asm); (case k4 => k_asm); (case k5 => k_asm); (case k6 => k_is); (case k7 => k_is); (case k8 => first | ktr_room | k_room); (case k9 => first | exact BindsTo.of_eq rfl | exact binds_K (by k_in) rfl (by k_is) rfl rfl rfl); (case c5 => decide); (case kB => exact locs rfl); (case c2 => exact rfl); (case c3 => exact rfl); (case c4 => exact rfl); k_whole; intro mqzz gqzz Lqzz hqzz tqzz FGqzz Fqzz Nqzz Bqzz Xqzz Tqzz qkqzz ekqzz))
  k_with "storeName" => ((k_dflt (refine' storeL ?F ?N ?a ?b ?_; (case F => k_asm); (case N => k_asm); (case a => rfl); (case b => rfl); k_whole; intro mszz hszz tszz Fszz Nszz; (try k_sweep))))
  k_with "leaveF" => ((k_dflt (first | (refine' leaveF_ret ?k1 ?k2 ?_; (case k1 => k_asm); (case k2 => k_asm); k_whole) | (refine' leaveF_next ?k1 ?k2 ?_; (case k1 => k_asm); (case k2 => k_asm); k_whole)); intro kFlzz kNlzz; ground_anew kFlzz))
  k_with "ktr_room" => (((try dsimp only [depth_under_make, depth_under_kw, depth_in1, depth_deeper]); first | exact room1 (by assumption) (by decide) | exact room2 (by assumption) (by decide) | exact room0 (by assumption) | exact room3 (by assumption) (by decide) | exact room4 (by assumption) (by decide)))
  k_with "ktr_units" => (((try dsimp only [units_under_make, units_in1, units_deeper, Around.mark_units]); first | exact room1 (by assumption) (by decide) | exact room2 (by assumption) (by decide) | exact room0 (by assumption) | exact room3 (by assumption) (by decide) | exact room4 (by assumption) (by decide)))
  k_with "k_ne" => ((refine neN ?_; (try dsimp only); first | assumption | exact Ne.symm (by assumption) | exact Nat.ne_of_gt (by assumption) | exact Nat.ne_of_lt (by assumption) | exact neP1 (by assumption) | exact neP2 (by assumption) | exact neP3 (by assumption) | exact neP4 (by assumption) | exact neP5 (by assumption)))
  k_with "k_all" => (assumption)
  k_with "execs cons" => (((with_reducible show wpAny _ _ _ _ _ (PySem.Shared.mk _ _ _ (_ + 1) _)); refine genToks ?_; intro tk9zz))
  k_with "eval Constant int" => ((refine constG ?_; intro t9zz tk9zz))
  k_with "ke_room" => (ktr_units)
  k_with "k_room" => (((try simp only [depth_under_make, depth_under_kw, depth_in1]); ktr_room))
  k_with "binaryOp FloorDiv int int" => ((k_here; refine floordiv_int (by split <;> (first | lia | omega)) ?_ (Or.inl (noPyl (by split <;> (first | lia | omega))))))
  k_with "spliced" => first | ((with_reducible show wpAny _ _ (spliced (backTo _ (starEach [PySem.Expr.Name _ _] _))) _ _ _); k_dflt (refine' argsN ?hF ?h0 rfl rfl rfl ?_; (case hF => k_asm); (case h0 => exact rfl); k_whole)) | ((with_reducible show wpAny _ _ (spliced (backTo _ (starEach [PySem.Expr.Constant (Const.int _) _ _] _))) _ _ _); refine argsC ?_; intro t9 tk9) | ((with_reducible show wpAny _ _ (spliced (backTo _ (starEach [PySem.Expr.Name _ _, PySem.Expr.Name _ _] _))) _ _ _); k_dflt (refine' argsNN ?hF ?h0 ?h1 rfl rfl rfl rfl rfl ?_; (case hF => k_asm); (case h0 => exact rfl); (case h1 => exact rfl); k_whole)) | ((with_reducible show wpAny _ _ (spliced (backTo _ (starEach [PySem.Expr.Name _ _, PySem.Expr.Constant (Const.int _) _ _] _))) _ _ _); k_dflt (refine' argsNC ?hF ?h0 rfl rfl rfl ?_; (case hF => k_asm); (case h0 => exact rfl); k_whole); intro t9 tk9) | ((with_reducible show wpAny _ _ (spliced (backTo _ (starEach [PySem.Expr.Name _ _, PySem.Expr.Name _ _, PySem.Expr.Name _ _] _))) _ _ _); k_dflt (refine' argsNNN ?hF ?h0 ?h1 ?h2 rfl rfl rfl rfl rfl rfl rfl ?_; (case hF => k_asm); (case h0 => exact rfl); (case h1 => exact rfl); (case h2 => exact rfl); k_whole))
  k_with "isTrue Compare" => ((with_reducible show wpAny _ _ (isTrue (PySem.Expr.Compare (PySem.Expr.Name _ _) [_] [PySem.Expr.Constant (Const.int _) _ _] _) _ _) _ _ _); k_dflt (refine' tsNC ?hF ?h0 ?hc rfl rfl rfl ?_; (case hF => k_asm); (case h0 => exact rfl); (case hc => exact rfl); k_whole); intro tk9)
  k_with "execs cons" => first | ((with_reducible show wpAny _ _ _ _ _ (PySem.Shared.mk _ _ _ (_ + 1) _)); refine genToks ?_; intro tk9) | (refine consQ ?_; intro q9)
  k_with "flowQ" => first | (refine flow_next ?_) | (refine flow_ret ?_)
  k_with "isTrue Compare" => ((with_reducible show wpAny _ _ (isTrue (Expr.Compare (Expr.Name _ _) [CmpOp.In] [Expr.List _ _] _) _ _) _ _ _); k_dflt (refine' inT (b := ?zb) ?ze ?zh ?zF ?zN ?zm ?zk ?zx ?zd ?zl ?_; (case ze => (repeat' constructor)); (case zF => k_asm); (case zN => k_asm); (case zm => exact rfl); (case zh => first | assumption | exact rfl); (case zk => exact rfl); (case zx => exact rfl); (case zd => decide); (case zl => decide); k_whole; intro h9 tk9 F9 N9; (try k_sweep)))
  k_steps
  all_goals (
    rename News _ _ _ _ => kN
    rename IntsAre _ _ => kI
    refine hret _ (_ :: (S, _) :: news) _ _ (by k_asm) (kst_newsOf kN (due_sub (by intro p hp; first | exact hp | exact List.Mem.tail _ hp | exact List.Mem.tail _ (List.Mem.tail _ hp) | exact List.Mem.tail _ (List.Mem.tail _ (List.Mem.tail _ hp)) | exact List.Mem.tail _ (List.Mem.tail _ (List.Mem.tail _ (List.Mem.tail _ hp))) | exact List.Mem.tail _ (List.Mem.tail _ (List.Mem.tail _ (List.Mem.tail _ (List.Mem.tail _ hp)))) | exact List.Mem.tail _ (List.Mem.tail _ (List.Mem.tail _ (List.Mem.tail _ (List.Mem.tail _ (List.Mem.tail _ hp))))) | exact List.Mem.tail _ (List.Mem.tail _ (List.Mem.tail _ (List.Mem.tail _ (List.Mem.tail _ (List.Mem.tail _ (List.Mem.tail _ hp)))))) | exact List.Mem.tail _ (List.Mem.tail _ (List.Mem.tail _ (List.Mem.tail _ (List.Mem.tail _ (List.Mem.tail _ (List.Mem.tail _ (List.Mem.tail _ hp))))))) | (simp only [List.mem_cons] at hp ⊢; rcases hp with hp | hp <;> simp [hp])))) ⟨_, _, _, rfl, ints_cast kI ?_, rfl⟩
    rw [e3, e2])
theorem mv38_out (xs : List Int) (y : Int) (hl : xs.length ≤ 7) (hy : -(2^31) ≤ y ∧ y ≤ 2^31) (hx : y < 1 ∨ (xs.length : Int) < y) : MvR w mean mg mb 38 (xs ++ [y]) (none) := mv_out 38 rfl rfl rfl rfl rfl xs y hl hy hx
theorem mv38_ok (xs : List Int) (y : Int) (hl : xs.length ≤ 7) (h1 : 1 ≤ y) (h2 : y ≤ (xs.length : Int)) : MvR w mean mg mb 38 (xs ++ [y]) (some (xs.take (xs.length - y.toNat) ++ xs.drop (xs.length - y.toNat + 1) ++ [xs.getD ((xs.length : Int) - y).toNat 0])) := by
  intro tc S vs k news hv hS
  have hl2 := hv.length
  refine oneE hv (fun zs hz hvN hlN hdec e2 e3 hlz => ?_)
  clear hv hl2
  have hv := hvN
  have hl2 := hlN
  clear hvN hlN
  have e4 : ((xs.length : Int) - y).toNat = xs.length - y.toNat := by (first | lia | omega)
  have e5 : ((xs.length : Int) - y + 1).toNat = xs.length - y.toNat + 1 := by (first | lia | omega)
  refine CbM_mk ?_; intro dpY unY gdY cnY csY acY ccY clY ouY a0Y baY h0Y LY mY shY sgY sdY skY soY QY EY aB aF aX aN aT akY adY auY hret
  k_dflt cell_enter
  k_with_none
  k_with "cell_enter" => ((refine' enterM ?k1 ?k2 ?k3 ?k4 ?k5 ?kA ?kF ?kK ?k6 ?k7 ?k8 ?k9 ?kB ?_ ?c2 ?c3 ?c4 ?c5; (case kA => exact rfl); (case kF => exact rfl); (case kK => assumption); (case k1 => k_asm); (case k2 => k_asm); (case k3 => k_asm); (case k4 => k_asm); (case k5 => k_asm); (case k6 => k_is); (case k7 => k_is); (case k8 => first | ktr_room | k_room); (case k9 => first | exact BindsTo.of_eq rfl | exact binds_K (by k_in) rfl (by k_is) rfl rfl rfl); (case c5 => decide); (case kB => exact locs rfl); (case c2 => exact rfl); (case c3 => exact rfl); (case c4 => exact rfl); k_whole; intro mqzz gqzz Lqzz hqzz tqzz FGqzz Fqzz Nqzz Bqzz Xqzz Tqzz qkqzz ekqzz))
  k_with "storeName" => ((k_dflt (refine' storeL ?F ?N ?a ?b ?_; (case F => k_asm); (case N => k_asm); (case a => rfl); (case b => rfl); k_whole; intro mszz hszz tszz Fszz Nszz; (try k_sweep))))
  k_with "leaveF" => ((k_dflt (first | (refine' leaveF_ret ?k1 ?k2 ?_; (case k1 => k_asm); (case k2 => k_asm); k_whole) | (refine' leaveF_next ?k1 ?k2 ?_; (case k1 => k_asm); (case k2 => k_asm); k_whole)); intro kFlzz kNlzz; ground_anew kFlzz))
  k_with "ktr_room" => (((try dsimp only [depth_under_make, depth_under_kw, depth_in1, depth_deeper]); first | exact room1 (by assumption) (by decide) | exact room2 (by assumption) (by decide) | exact room0 (by assumption) | exact room3 (by assumption) (by decide) | exact room4 (by assumption) (by decide)))
  k_with "ktr_units" => (((try dsimp only [units_under_make, units_in1, units_deeper, Around.mark_units]); first | exact room1 (by assumption) (by decide) | exact room2 (by assumption) (by decide) | exact room0 (by assumption) | exact room3 (by assumption) (by decide) | exact room4 (by assumption) (by decide)))
  k_with "k_ne" => ((refine neN ?_; (try dsimp only); first | assumption | exact Ne.symm (by assumption) | exact Nat.ne_of_gt (by assumption) | exact Nat.ne_of_lt (by assumption) | exact neP1 (by assumption) | exact neP2 (by assumption) | exact neP3 (by assumption) | exact neP4 (by assumption) | exact neP5 (by assumption)))
  k_with "k_all" => (assumption)
  k_with "execs cons" => (((with_reducible show wpAny _ _ _ _ _ (PySem.Shared.mk _ _ _ (_ + 1) _)); refine genToks ?_; intro tk9zz))
  k_with "eval Constant int" => ((refine constG ?_; intro t9zz tk9zz))
  k_with "ke_room" => (ktr_units)
  k_with "k_room" => (((try simp only [depth_under_make, depth_under_kw, depth_in1]); ktr_room))
  k_with "binaryOp FloorDiv int int" => ((k_here; refine floordiv_int (by split <;> (first | lia | omega)) ?_ (Or.inl (noPyl (by split <;> (first | lia | omega))))))
  k_with "spliced" => first | ((with_reducible show wpAny _ _ (spliced (backTo _ (starEach [PySem.Expr.Name _ _] _))) _ _ _); k_dflt (refine' argsN ?hF ?h0 rfl rfl rfl ?_; (case hF => k_asm); (case h0 => exact rfl); k_whole)) | ((with_reducible show wpAny _ _ (spliced (backTo _ (starEach [PySem.Expr.Constant (Const.int _) _ _] _))) _ _ _); refine argsC ?_; intro t9 tk9) | ((with_reducible show wpAny _ _ (spliced (backTo _ (starEach [PySem.Expr.Name _ _, PySem.Expr.Name _ _] _))) _ _ _); k_dflt (refine' argsNN ?hF ?h0 ?h1 rfl rfl rfl rfl rfl ?_; (case hF => k_asm); (case h0 => exact rfl); (case h1 => exact rfl); k_whole)) | ((with_reducible show wpAny _ _ (spliced (backTo _ (starEach [PySem.Expr.Name _ _, PySem.Expr.Constant (Const.int _) _ _] _))) _ _ _); k_dflt (refine' argsNC ?hF ?h0 rfl rfl rfl ?_; (case hF => k_asm); (case h0 => exact rfl); k_whole); intro t9 tk9) | ((with_reducible show wpAny _ _ (spliced (backTo _ (starEach [PySem.Expr.Name _ _, PySem.Expr.Name _ _, PySem.Expr.Name _ _] _))) _ _ _); k_dflt (refine' argsNNN ?hF ?h0 ?h1 ?h2 rfl rfl rfl rfl rfl rfl rfl ?_; (case hF => k_asm); (case h0 => exact rfl); (case h1 => exact rfl); (case h2 => exact rfl); k_whole))
  k_with "isTrue Compare" => ((with_reducible show wpAny _ _ (isTrue (PySem.Expr.Compare (PySem.Expr.Name _ _) [_] [PySem.Expr.Constant (Const.int _) _ _] _) _ _) _ _ _); k_dflt (refine' tsNC ?hF ?h0 ?hc rfl rfl rfl ?_; (case hF => k_asm); (case h0 => exact rfl); (case hc => exact rfl); k_whole); intro tk9)
  k_with "execs cons" => first | ((with_reducible show wpAny _ _ _ _ _ (PySem.Shared.mk _ _ _ (_ + 1) _)); refine genToks ?_; intro tk9) | (refine consQ ?_; intro q9)
  k_with "flowQ" => first | (refine flow_next ?_) | (refine flow_ret ?_)
  k_with "isTrue Compare" => ((with_reducible show wpAny _ _ (isTrue (Expr.Compare (Expr.Name _ _) [CmpOp.In] [Expr.List _ _] _) _ _) _ _ _); k_dflt (refine' inT (b := ?zb) ?ze ?zh ?zF ?zN ?zm ?zk ?zx ?zd ?zl ?_; (case ze => (repeat' constructor)); (case zF => k_asm); (case zN => k_asm); (case zm => exact rfl); (case zh => first | assumption | exact rfl); (case zk => exact rfl); (case zx => exact rfl); (case zd => decide); (case zl => decide); k_whole; intro h9 tk9 F9 N9; (try k_sweep)))
  k_with "storeName" => first
    | (rw [e2])
    | (rename IntsAre _ _ => kI; rw [e3] at kI)
  k_with "subscriptTail Name Slice ref ref" => ((k_dflt (refine' kmk_slice_ints ?slF ?slN ?sll ?slp ?slq ?sli ?slm ?slc ?_ ?sls ?slt ?slz; (case slF => k_asm); (case slN => k_asm); (case sll => kmk_list); (case slp => kmk_part); (case slq => kmk_part); (case sli => l_ints); (case slm => first | exact kmk_upto (by l_ints) (by (first | lia | omega)) | exact kmk_from (by l_ints) (by (first | lia | omega)) | exact kmk_upto_neg (by l_ints) (by decide)); (case slc => kmk_len); (case sls => with_unfolding_all rfl); (case slt => kmk_pure); (case slz => exact kmk_sz (by l_ints) (by rw [PySem.sizeLine_eq]; (first | lia | omega))))); intro D' ws' h' F' N' l1 hI' hC' hL'; (try simp only [Int.reduceNeg, Int.neg_neg, Int.reduceToNat] at hI' hC' hL'); (try k_lt l1); (try k_sweep))
  k_steps
  all_goals (
    rename News _ _ _ _ => kN
    rename IntsAre _ _ => kI
    refine hret _ (_ :: (S, _) :: news) _ _ (by k_asm) (kst_newsOf kN (due_sub (by intro p hp; first | exact hp | exact List.Mem.tail _ hp | exact List.Mem.tail _ (List.Mem.tail _ hp) | exact List.Mem.tail _ (List.Mem.tail _ (List.Mem.tail _ hp)) | exact List.Mem.tail _ (List.Mem.tail _ (List.Mem.tail _ (List.Mem.tail _ hp))) | exact List.Mem.tail _ (List.Mem.tail _ (List.Mem.tail _ (List.Mem.tail _ (List.Mem.tail _ hp)))) | exact List.Mem.tail _ (List.Mem.tail _ (List.Mem.tail _ (List.Mem.tail _ (List.Mem.tail _ (List.Mem.tail _ hp))))) | exact List.Mem.tail _ (List.Mem.tail _ (List.Mem.tail _ (List.Mem.tail _ (List.Mem.tail _ (List.Mem.tail _ (List.Mem.tail _ hp)))))) | exact List.Mem.tail _ (List.Mem.tail _ (List.Mem.tail _ (List.Mem.tail _ (List.Mem.tail _ (List.Mem.tail _ (List.Mem.tail _ (List.Mem.tail _ hp))))))) | (simp only [List.mem_cons] at hp ⊢; rcases hp with hp | hp <;> simp [hp])))) ⟨_, _, _, rfl, ints_cast kI ?_, rfl⟩
    (try rw [e3]); (try rw [e2]); rw [e4, e5])
theorem mv_cast {c : Int} {zs : List Int} {o o' : Option (List Int)} (h : MvR w mean mg mb c zs o) (e : o = o') : MvR w mean mg mb c zs o' := e ▸ h
theorem len_pos_of {zs : List Int} (h : decide (zs = []) = false) : 0 < zs.length := List.length_pos_iff.mpr (by simpa using h)
theorem due32_nil : DueR w mean mg mb 32 [] none := due_mv (by decide) (mv_cast (mv_nil 32) (by decide))
theorem due34_nil : DueR w mean mg mb 34 [] (some []) := due_mv (by decide) (mv_cast (mv_nil 34) (by decide))
theorem due36_nil : DueR w mean mg mb 36 [] (some [0]) := due_mv (by decide) (mv_cast (mv_nil 36) (by decide))
theorem due35_nil : DueR w mean mg mb 35 [] none := due_mv (by decide) (mv_cast (mv_nil 35) (by decide))
theorem due138_nil : DueR w mean mg mb 138 [] none := due_mv (by decide) (mv_cast (mv_nil 138) (by decide))
theorem due37_nil : DueR w mean mg mb 37 [] none := due_mv (by decide) (mv_cast (mv_nil 37) (by decide))
theorem due38_nil : DueR w mean mg mb 38 [] none := due_mv (by decide) (mv_cast (mv_nil 38) (by decide))
theorem due32_full (zs : List Int) (hz8 : zs.length = 8) (hdec : decide (zs = []) = false) : DueR w mean mg mb 32 zs none := due_mv (by decide) (mv_cast (mv32 zs (len_pos_of hdec) (by (first | lia | omega)) hdec) (by rw [if_neg (by (first | lia | omega))]))
theorem due32_ok (xs : List Int) (y : Int) (hl : xs.length ≤ 6) : DueR w mean mg mb 32 (xs ++ [y]) (some (xs ++ [y] ++ [y])) := due_mv (by decide) (mv_cast (mv32 _ (by simp) (by simp; (first | lia | omega)) (by simp)) (by rw [if_pos (by simp; (first | lia | omega))]; simp))
theorem due34_ok (zs : List Int) (hz8 : zs.length ≤ 8) (hz0 : 0 < zs.length) (hdec : decide (zs = []) = false) : DueR w mean mg mb 34 zs (some []) := due_mv (by decide) (mv34 zs hz0 hz8 hdec)
theorem due36_full (zs : List Int) (hz8 : zs.length = 8) (hdec : decide (zs = []) = false) : DueR w mean mg mb 36 zs none := due_mv (by decide) (mv_cast (mv36 zs (len_pos_of hdec) (by (first | lia | omega)) hdec) (by rw [if_neg (by (first | lia | omega))]))
theorem due36_ok (zs : List Int) (hz8 : zs.length ≤ 7) (hz0 : 0 < zs.length) (hdec : decide (zs = []) = false) : DueR w mean mg mb 36 zs (some (zs ++ [(zs.length : Int)])) := due_mv (by decide) (mv_cast (mv36 zs hz0 (by (first | lia | omega)) hdec) (by rw [if_pos (by (first | lia | omega))]))
theorem due35_short (zs : List Int) (hz8 : zs.length = 1) (hdec : decide (zs = []) = false) : DueR w mean mg mb 35 zs none := due_mv (by decide) (mv_cast (mv35 zs (by (first | lia | omega)) (by (first | lia | omega)) hdec) (by rw [if_neg (by (first | lia | omega))]))
theorem due35_ok (xs : List Int) (x y : Int) (hl : xs.length ≤ 6) : DueR w mean mg mb 35 (xs ++ [x] ++ [y]) (some (xs ++ [y] ++ [x])) := by
  refine due_mv (by decide) (mv_cast (mv35 _ (by simp) (by simp; (first | lia | omega)) (by simp)) ?_)
  rw [if_pos (by simp), show (-1 + ((xs ++ [x] ++ [y]).length : Int)).toNat = xs.length + 1 by (simp; (first | lia | omega)), show (-2 + ((xs ++ [x] ++ [y]).length : Int)).toNat = xs.length by (simp; (first | lia | omega))]
  simp
theorem due138_short (zs : List Int) (hz8 : zs.length = 1 ∨ zs.length = 2) (hdec : decide (zs = []) = false) : DueR w mean mg mb 138 zs none := due_mv (by decide) (mv_cast (mv138 zs (by (first | lia | omega)) (by (first | lia | omega)) hdec) (by rw [if_neg (by (first | lia | omega))]))
theorem due138_ok (xs : List Int) (x y z : Int) (hl : xs.length ≤ 5) : DueR w mean mg mb 138 (xs ++ [x] ++ [y] ++ [z]) (some (xs ++ [y] ++ [z] ++ [x])) := by
  refine due_mv (by decide) (mv_cast (mv138 _ (by simp) (by simp; (first | lia | omega)) (by simp)) ?_)
  rw [if_pos (by simp), show (-1 + ((xs ++ [x] ++ [y] ++ [z]).length : Int)).toNat = xs.length + 2 by (simp; (first | lia | omega)), show (-2 + ((xs ++ [x] ++ [y] ++ [z]).length : Int)).toNat = xs.length + 1 by (simp; (first | lia | omega)), show (-3 + ((xs ++ [x] ++ [y] ++ [z]).length : Int)).toNat = xs.length by (simp; (first | lia | omega))]
  simp
theorem due37_out (xs : List Int) (y : Int) (hl : xs.length ≤ 7) (hy : -(2^31) ≤ y ∧ y ≤ 2^31) (hx : y < 1 ∨ (xs.length : Int) < y) : DueR w mean mg mb 37 (xs ++ [y]) none := due_mv (by decide) (mv37_out xs y hl hy hx)
theorem due37_ok (xs : List Int) (y : Int) (hl : xs.length ≤ 7) (h1 : 1 ≤ y) (h2 : y ≤ (xs.length : Int)) : DueR w mean mg mb 37 (xs ++ [y]) (some (xs ++ [xs.getD ((xs.length : Int) - y).toNat 0])) := due_mv (by decide) (mv37_ok xs y hl h1 h2)
theorem due38_out (xs : List Int) (y : Int) (hl : xs.length ≤ 7) (hy : -(2^31) ≤ y ∧ y ≤ 2^31) (hx : y < 1 ∨ (xs.length : Int) < y) : DueR w mean mg mb 38 (xs ++ [y]) none := due_mv (by decide) (mv38_out xs y hl hy hx)
theorem due38_ok (xs : List Int) (y : Int) (hl : xs.length ≤ 7) (h1 : 1 ≤ y) (h2 : y ≤ (xs.length : Int)) : DueR w mean mg mb 38 (xs ++ [y]) (some (xs.take (xs.length - y.toNat) ++ xs.drop (xs.length - y.toNat + 1) ++ [xs.getD ((xs.length : Int) - y).toNat 0])) := due_mv (by decide) (mv38_ok xs y hl h1 h2)
end
end

section
open PySem PySem.W PyProof.Rows PySem.Calls
theorem kwAgree : True := by
  k_with_none
  w_top off
  trivial
section
variable {w : World} {mean : ExcName → Option Value} {mg mb : Str → Option Value} {f : Addr} {dd uu : Nat} {news : List (Addr × Obj)} {vs : List Value} {Post Post' : List (Addr × Obj) → Value → Prop}
theorem kwAgree_1 : True := by
  k_with_none
  k_with "ktr_room" => (((try dsimp only [depth_under_make, depth_under_kw, depth_in1, depth_deeper]); first | exact room1 (by assumption) (by decide) | exact room2 (by assumption) (by decide) | exact room0 (by assumption) | exact room3 (by assumption) (by decide) | exact room4 (by assumption) (by decide)))
  k_with "ktr_units" => (((try dsimp only [units_under_make, units_in1, units_deeper, Around.mark_units]); first | exact room1 (by assumption) (by decide) | exact room2 (by assumption) (by decide) | exact room0 (by assumption) | exact room3 (by assumption) (by decide) | exact room4 (by assumption) (by decide)))
  k_with "k_ne" => ((refine neN ?_; (try dsimp only); first | assumption | exact Ne.symm (by assumption) | exact Nat.ne_of_gt (by assumption) | exact Nat.ne_of_lt (by assumption) | exact neP1 (by assumption) | exact neP2 (by assumption) | exact neP3 (by assumption) | exact neP4 (by assumption) | exact neP5 (by assumption)))
  trivial
theorem CbM.weak (c : CbM w mean mg mb f dd uu news vs Post) (h : ∀ n' r, Post n' r → ∃ n'', (∀ p ∈ n'', p ∈ n') ∧ Post' n'' r) : CbM w mean mg mb f dd uu news vs Post' := by
  intro dp un gd cn cs a ccd cl outer A₀ base h₀ L m s Q E B F X N T hk hd' hu ret
  refine c dp un gd cn cs a ccd cl outer A₀ base h₀ L m s Q E B F X N T hk hd' hu fun r n' h' tk' F' N' P' => ?_
  obtain ⟨n'', sub, p⟩ := h n' r P'
  exact ret r n'' h' tk' F' (kst_newsOf N' sub) p
theorem CbE.sub {kept kept' : List (Addr × Obj)} (c : CbE w mean mg mb f dd uu news vs kept) (h : ∀ p ∈ kept', p ∈ kept) : CbE w mean mg mb f dd uu news vs kept' := by
  intro dp un gd cn cs a ccd cl outer A₀ base h₀ L m s Q E B F X N T hk hd' hu ret
  exact c dp un gd cn cs a ccd cl outer A₀ base h₀ L m s Q E B F X N T hk hd' hu fun G e t x h' tk' F' R' U' => ret G e t x h' tk' F' (Mine.RaisedS.sub R' h) U'
end
/-- what a list or a None tells -/
noncomputable def OutIs (o : Option (List Int)) (old : List (Addr × Obj)) (n' : List (Addr × Obj)) (r : Value) : Prop :=
  match o with | none => r = .none ∧ n' = old | some ys => ∃ D us k2, r = .ref D ∧ IntsAre us ys ∧ n' = (D, listOf us.toArray k2) :: old ∧ ∀ p ∈ old, p.1 ≠ D
/-- _law_heard of a code, on a stack of ours, answers o -/
noncomputable def HeardR (w : World) (mean : ExcName → Option Value) (mg mb : Str → Option Value) (c : Int) (xs : List Int) (o : Option (List Int)) : Prop :=
  ∀ (tc : Tok) (a : WA) (N : Nat) (vs : List Value) (k : Nat) (rest : List (Addr × Obj)), IntsAre vs xs → Chain a N rest → CbS w mean mg mb 548 100 5000 (led a N vs k rest) [.ref a.W, .int c tc] (OutIs o rest)
section
variable {w : World} {mean : ExcName → Option Value} {mg mb : Str → Option Value} {f : Addr} {c : Int} {xs ys : List Int}
theorem chain_snoc {a : WA} {N : Nat} {vs : List Value} {k : Nat} {rest : List (Addr × Obj)} {d : Nat} {o : Obj} (hc : Chain a N rest) (l : ∀ p ∈ led a N vs k rest, p.1 < d) : Chain a N (rest ++ [(d, o)]) := by
  obtain ⟨c1, c2, c3, c4, r1, r2⟩ := hc
  have e1 : N < d := l (N, listOf vs.toArray k) (by simp [led])
  have e2 : a.SD < d := l (a.SD, sdObj a.h1 a.h2 a.t1 a.t2 8 a.tm N) (by simp [led])
  refine ⟨c1, c2, c3, c4, fun p hp => ?_, fun p hp => ?_⟩
  · rcases List.mem_append.mp hp with q | q
    · exact r1 p q
    · rw [List.mem_singleton.mp q]; exact Nat.ne_of_gt e1
  · rcases List.mem_append.mp hp with q | q
    · exact r2 p q
    · rw [List.mem_singleton.mp q]; exact Nat.ne_of_gt e2
theorem chain_init {a : WA} {N d : Nat} {o : Obj} {rest : List (Addr × Obj)} (hc : Chain a N (rest ++ [(d, o)])) : Chain a N rest :=
  ⟨hc.c1, hc.c2, hc.c3, hc.c4, fun p hp => hc.r1 p (List.mem_append_left _ hp), fun p hp => hc.r2 p (List.mem_append_left _ hp)⟩
theorem opR_of (op : OpOk w mean mg mb f c xs ys) (tc : Tok) (a : WA) (N : Nat) (vs : List Value) (k : Nat) (rest : List (Addr × Obj)) (hv : IntsAre vs xs) (hc : Chain a N rest) : OpR w mean mg mb f c tc a N vs k rest ys (fun rest' => rest' = rest) := by
  intro d o l
  refine CbM.weak (op a N tc vs k (rest ++ [(d, o)]) hv (chain_snoc hc l)) fun n' r h => ?_
  obtain ⟨rfl, N', vs', k', i, c', rfl⟩ := h
  exact ⟨_, fun p hp => hp, rfl, N', vs', k', rest, i, chain_init c', rfl, rfl⟩
theorem heardR_ok (op : OpOk w mean mg mb f c xs ys) (hf : valueAt opsF c = some (.ref f)) (hkp : keepIn (hd.heap_1 w.params) (.ref f) = true) (hys : ys.length ≤ 100) : HeardR w mean mg mb c xs (some ys) := by
  intro tc a N vs k rest hv hc
  refine CbM.toS (CbM.weak (heard_ok hf hkp hys (opR_of op tc a N vs k rest hv hc)) fun n' r h => ?_)
  obtain ⟨D, N', vs', k', rest', k2, rfl, i, c', rfl, rfl, l⟩ := h
  exact ⟨(D, listOf vs'.toArray k2) :: rest', fun p hp => by rcases List.mem_cons.mp hp with q | q; exact q ▸ List.mem_cons_self; exact List.mem_cons_of_mem _ (by simp [led, q]), D, vs', k2, rfl, i, rfl, fun p hp => Nat.ne_of_lt (l p (by simp [led, hp]))⟩
theorem heardR_bad (op : OpBad w mean mg mb f c xs) (hf : valueAt opsF c = some (.ref f)) (hkp : keepIn (hd.heap_1 w.params) (.ref f) = true) : HeardR w mean mg mb c xs none := by
  intro tc a N vs k rest hv hc
  refine heard_bad hf hkp fun d o l => CbE.sub (op a N tc vs k (rest ++ [(d, o)]) hv (chain_snoc hc l)) fun p hp => List.mem_append_left _ hp
end
section
variable {w : World} {mean : ExcName → Option Value} {mg mb : Str → Option Value}
noncomputable def Both (w : World) (mean : ExcName → Option Value) (mg mb : Str → Option Value) (c : Int) (xs : List Int) : Prop := ∃ o, HeardR w mean mg mb c xs o ∧ DueR w mean mg mb c xs o
structure GoodX (xs : List Int) : Prop where
  len : xs.length ≤ 8
  bd : ∀ x ∈ xs, -(2^31) ≤ x ∧ x ≤ 2^31
theorem snoc_or (xs : List Int) : xs = [] ∨ ∃ ys y, xs = ys ++ [y] := by
  rcases List.eq_nil_or_concat xs with h | ⟨l, b, h⟩
  · exact .inl h
  · exact .inr ⟨l, b, by rw [h, List.concat_eq_append]⟩
theorem shape2 (xs : List Int) : xs.length < 2 ∧ (xs = [] ∨ ∃ y, xs = [y]) ∨ ∃ ys x y, xs = ys ++ [x] ++ [y] := by
  rcases snoc_or xs with rfl | ⟨ys, y, rfl⟩
  · exact .inl ⟨by decide, .inl rfl⟩
  · rcases snoc_or ys with rfl | ⟨zs, x, rfl⟩
    · exact .inl ⟨by simp, .inr ⟨y, rfl⟩⟩
    · exact .inr ⟨zs, x, y, rfl⟩
theorem ne_dec (ys : List Int) (y : Int) : decide (ys ++ [y] = []) = false := by simp
variable {xs : List Int}
theorem kwAgree_2 : True := by
  k_with_none
  k_with "ktr_room" => (((try dsimp only [depth_under_make, depth_under_kw, depth_in1, depth_deeper]); first | exact room1 (by assumption) (by decide) | exact room2 (by assumption) (by decide) | exact room0 (by assumption) | exact room3 (by assumption) (by decide) | exact room4 (by assumption) (by decide)))
  k_with "ktr_units" => (((try dsimp only [units_under_make, units_in1, units_deeper, Around.mark_units]); first | exact room1 (by assumption) (by decide) | exact room2 (by assumption) (by decide) | exact room0 (by assumption) | exact room3 (by assumption) (by decide) | exact room4 (by assumption) (by decide)))
  k_with "k_ne" => ((refine neN ?_; (try dsimp only); first | assumption | exact Ne.symm (by assumption) | exact Nat.ne_of_gt (by assumption) | exact Nat.ne_of_lt (by assumption) | exact neP1 (by assumption) | exact neP2 (by assumption) | exact neP3 (by assumption) | exact neP4 (by assumption) | exact neP5 (by assumption)))
  k_with "k_all" => (assumption)
  k_with "execs cons" => (((with_reducible show wpAny _ _ _ _ _ (PySem.Shared.mk _ _ _ (_ + 1) _)); refine genToks ?_; intro tk9zz))
  k_with "eval Constant int" => ((refine constG ?_; intro t9zz tk9zz))
  trivial
theorem ag32 (h : GoodX xs) : Both w mean mg mb 32 xs := by
  have hl := h.len
  rcases snoc_or xs with rfl | ⟨ys, y, rfl⟩
  · exact ⟨none, heardR_bad (dup_bad0 _) (by rfl) (by k_is), due32_nil⟩
  · simp only [List.length_append, List.length_cons, List.length_nil] at hl
    by_cases h7 : ys.length = 7
    · exact ⟨none, heardR_bad (dup_bad1 ys y _ h7) (by rfl) (by k_is), due32_full _ (by simp [h7]) (ne_dec _ _)⟩
    · exact ⟨_, heardR_ok (dup_ok ys y (by (first | lia | omega)) _) (by rfl) (by k_is) (by simp; (first | lia | omega)), due32_ok ys y (by (first | lia | omega))⟩
theorem ag34 (h : GoodX xs) : Both w mean mg mb 34 xs := by
  refine ⟨_, heardR_ok (clear_ok xs _) (by rfl) (by k_is) (by decide), ?_⟩
  rcases snoc_or xs with rfl | ⟨ys, y, rfl⟩
  · exact due34_nil
  · exact due34_ok _ h.len (by simp) (ne_dec _ _)
theorem ag36 (h : GoodX xs) : Both w mean mg mb 36 xs := by
  have hl := h.len
  by_cases h8 : xs.length = 8
  · refine ⟨none, heardR_bad (depth_bad xs _ h8) (by rfl) (by k_is), due36_full _ h8 ?_⟩
    rcases snoc_or xs with rfl | ⟨ys, y, rfl⟩
    · simp at h8
    · exact ne_dec _ _
  · refine ⟨_, heardR_ok (depth_ok xs (by (first | lia | omega)) _) (by rfl) (by k_is) (by simp; (first | lia | omega)), ?_⟩
    rcases snoc_or xs with rfl | ⟨ys, y, rfl⟩
    · exact due36_nil
    · exact due36_ok _ (by (first | lia | omega)) (by simp) (ne_dec _ _)
theorem ag35 (h : GoodX xs) : Both w mean mg mb 35 xs := by
  have hl := h.len
  rcases shape2 xs with ⟨-, rfl | ⟨y, rfl⟩⟩ | ⟨ys, x, y, rfl⟩
  · exact ⟨none, heardR_bad (swap_bad0 _) (by rfl) (by k_is), due35_nil⟩
  · exact ⟨none, heardR_bad (swap_bad1 y _) (by rfl) (by k_is), due35_short _ rfl (ne_dec [] y)⟩
  · simp only [List.length_append, List.length_cons, List.length_nil] at hl
    exact ⟨_, heardR_ok (swap_ok ys x y (by (first | lia | omega)) _) (by rfl) (by k_is) (by simp; (first | lia | omega)), due35_ok ys x y (by (first | lia | omega))⟩
theorem ag138 (h : GoodX xs) : Both w mean mg mb 138 xs := by
  have hl := h.len
  rcases shape2 xs with ⟨-, rfl | ⟨y, rfl⟩⟩ | ⟨ys, y, z, rfl⟩
  · exact ⟨none, heardR_bad (roll_bad0 _) (by rfl) (by k_is), due138_nil⟩
  · exact ⟨none, heardR_bad (roll_bad1 y _) (by rfl) (by k_is), due138_short _ (.inl rfl) (ne_dec [] y)⟩
  · rcases snoc_or ys with rfl | ⟨zs, x, rfl⟩
    · exact ⟨none, heardR_bad (roll_bad2 y z _) (by rfl) (by k_is), due138_short _ (.inr rfl) (ne_dec _ z)⟩
    · simp only [List.length_append, List.length_cons, List.length_nil] at hl
      exact ⟨_, heardR_ok (roll_ok zs x y z (by (first | lia | omega)) _) (by rfl) (by k_is) (by simp; (first | lia | omega)), due138_ok zs x y z (by (first | lia | omega))⟩
theorem ag37 (h : GoodX xs) : Both w mean mg mb 37 xs := by
  have hl := h.len
  rcases snoc_or xs with rfl | ⟨ys, y, rfl⟩
  · exact ⟨none, heardR_bad (cindex_bad0 _) (by rfl) (by k_is), due37_nil⟩
  · have hy := h.bd y (by simp)
    simp only [List.length_append, List.length_cons, List.length_nil] at hl
    by_cases hx : y < 1 ∨ (ys.length : Int) < y
    · exact ⟨none, heardR_bad (cindex_bad1 ys y _ (by (first | lia | omega)) hx (by (first | lia | omega))) (by rfl) (by k_is), due37_out ys y (by (first | lia | omega)) hy hx⟩
    · exact ⟨_, heardR_ok (cindex_ok ys y (by (first | lia | omega)) (by (first | lia | omega)) (by (first | lia | omega)) _) (by rfl) (by k_is) (by simp; (first | lia | omega)), due37_ok ys y (by (first | lia | omega)) (by (first | lia | omega)) (by (first | lia | omega))⟩
theorem ag38 (h : GoodX xs) : Both w mean mg mb 38 xs := by
  have hl := h.len
  rcases snoc_or xs with rfl | ⟨ys, y, rfl⟩
  · exact ⟨none, heardR_bad (mindex_bad0 _) (by rfl) (by k_is), due38_nil⟩
  · have hy := h.bd y (by simp)
    simp only [List.length_append, List.length_cons, List.length_nil] at hl
    by_cases hx : y < 1 ∨ (ys.length : Int) < y
    · exact ⟨none, heardR_bad (mindex_bad1 ys y _ (by (first | lia | omega)) hx (by (first | lia | omega))) (by rfl) (by k_is), due38_out ys y (by (first | lia | omega)) hy hx⟩
    · exact ⟨_, heardR_ok (mindex_ok ys y (by (first | lia | omega)) (by (first | lia | omega)) (by (first | lia | omega)) _) (by rfl) (by k_is) (by simp; (first | lia | omega)), due38_ok ys y (by (first | lia | omega)) (by (first | lia | omega)) (by (first | lia | omega))⟩
theorem ag92 (h : GoodX xs) : Both w mean mg mb 92 xs := by
  have hl := h.len
  rcases snoc_or xs with rfl | ⟨ys, y, rfl⟩
  · exact ⟨none, heardR_bad (not_bad0 _) (by rfl) (by k_is), due92_bad⟩
  · have hy := h.bd y (by simp)
    simp only [List.length_append, List.length_cons, List.length_nil] at hl
    exact ⟨_, heardR_ok (not_ok ys y (by (first | lia | omega)) _) (by rfl) (by k_is) (by simp; (first | lia | omega)), due92_ok ys y (by (first | lia | omega)) hy⟩
theorem agOne (c : Int) (hf : valueAt opsF c = some (.ref 240)) (h : GoodX xs) (h0 : DueR w mean mg mb c [] none)
    (h1 : ∀ ys y, ys.length ≤ 7 → -(2^31) ≤ y ∧ y ≤ 2^31 → DueR w mean mg mb c (ys ++ [y]) (some (ys ++ [oneS c y]))) : Both w mean mg mb c xs := by
  have hl := h.len
  rcases snoc_or xs with rfl | ⟨ys, y, rfl⟩
  · exact ⟨none, heardR_bad (one_bad0 _) hf (by k_is), h0⟩
  · have hy := h.bd y (by simp)
    simp only [List.length_append, List.length_cons, List.length_nil] at hl
    exact ⟨_, heardR_ok (one_ok ys y (by (first | lia | omega)) hy c) hf (by k_is) (by simp; (first | lia | omega)), h1 ys y (by (first | lia | omega)) hy⟩
theorem agCmp (c : Int) (hc : Tc c) (hf : valueAt opsF c = some (.ref 205)) (hm1 : Tn c [32, 34, 35, 36, 37, 38, 138]) (hm2 : Tn c [92, 100, 101, 102, 103]) (h : GoodX xs) : Both w mean mg mb c xs := by
  have hl := h.len
  rcases shape2 xs with ⟨hs, rfl | ⟨y, rfl⟩⟩ | ⟨ys, x, y, rfl⟩
  · exact ⟨none, heardR_bad (cmp_bad0 _) hf (by k_is), due_short c hm1 hm2 _ hs⟩
  · exact ⟨none, heardR_bad (cmp_bad1 y _) hf (by k_is), due_short c hm1 hm2 _ hs⟩
  · simp only [List.length_append, List.length_cons, List.length_nil] at hl
    exact ⟨_, heardR_ok (cmp_ok ys x y (by (first | lia | omega)) c) hf (by k_is) (by simp; (first | lia | omega)), due_truth c hc ys x y (by (first | lia | omega))⟩
theorem agTwo (c : Int) (hc : Rc c) (hf : valueAt opsF c = some (.ref 233)) (hm1 : Tn c [32, 34, 35, 36, 37, 38, 138]) (hm2 : Tn c [92, 100, 101, 102, 103]) (h : GoodX xs) : Both w mean mg mb c xs := by
  have hl := h.len
  rcases shape2 xs with ⟨hs, rfl | ⟨y, rfl⟩⟩ | ⟨ys, x, y, rfl⟩
  · exact ⟨none, heardR_bad (two_bad0 _) hf (by k_is), due_short c hm1 hm2 _ hs⟩
  · exact ⟨none, heardR_bad (two_bad1 y _) hf (by k_is), due_short c hm1 hm2 _ hs⟩
  · have hx := h.bd x (by simp)
    have hy := h.bd y (by simp)
    simp only [List.length_append, List.length_cons, List.length_nil] at hl
    by_cases h98 : c = 98 ∧ y = 0
    · obtain ⟨rfl, rfl⟩ := h98
      exact ⟨none, heardR_bad (two_bad2 ys x (by (first | lia | omega))) hf (by k_is), due_reck_bad ys x 0 rfl (by (first | lia | omega)) hx⟩
    · have h3 : c ≠ 98 ∨ y ≠ 0 := by (first | lia | omega)
      exact ⟨_, heardR_ok (two_ok ys x y (by (first | lia | omega)) hx hy c h3) hf (by k_is) (by simp; (first | lia | omega)), due_reck c hc ys x y (by (first | lia | omega)) h3 hx hy⟩
noncomputable def codes26 : List Int := [32, 34, 35, 36, 37, 38, 138, 92, 100, 101, 102, 103, 80, 81, 82, 83, 84, 85, 90, 91, 96, 97, 98, 99, 139, 140]
theorem agree {c : Int} (hc : c ∈ codes26) (h : GoodX xs) : Both w mean mg mb c xs := by
  simp only [codes26, List.mem_cons, List.not_mem_nil, or_false] at hc
  rcases hc with rfl | rfl | rfl | rfl | rfl | rfl | rfl | rfl | rfl | rfl | rfl | rfl | hc
  · exact ag32 h
  · exact ag34 h
  · exact ag35 h
  · exact ag36 h
  · exact ag37 h
  · exact ag38 h
  · exact ag138 h
  · exact ag92 h
  · exact agOne 100 (by rfl) h due100_bad due100_ok
  · exact agOne 101 (by rfl) h due101_bad due101_ok
  · exact agOne 102 (by rfl) h due102_bad due102_ok
  · exact agOne 103 (by rfl) h due103_bad due103_ok
  · rcases hc with rfl | rfl | rfl | rfl | rfl | rfl | rfl | rfl | hc
    · exact agCmp 80 (by decide) (by rfl) (by decide) (by decide) h
    · exact agCmp 81 (by decide) (by rfl) (by decide) (by decide) h
    · exact agCmp 82 (by decide) (by rfl) (by decide) (by decide) h
    · exact agCmp 83 (by decide) (by rfl) (by decide) (by decide) h
    · exact agCmp 84 (by decide) (by rfl) (by decide) (by decide) h
    · exact agCmp 85 (by decide) (by rfl) (by decide) (by decide) h
    · exact agCmp 90 (by decide) (by rfl) (by decide) (by decide) h
    · exact agCmp 91 (by decide) (by rfl) (by decide) (by decide) h
    · rcases hc with rfl | rfl | rfl | rfl | rfl | rfl
      · exact agTwo 96 (by decide) (by rfl) (by decide) (by decide) h
      · exact agTwo 97 (by decide) (by rfl) (by decide) (by decide) h
      · exact agTwo 98 (by decide) (by rfl) (by decide) (by decide) h
      · exact agTwo 99 (by decide) (by rfl) (by decide) (by decide) h
      · exact agTwo 139 (by decide) (by rfl) (by decide) (by decide) h
      · exact agTwo 140 (by decide) (by rfl) (by decide) (by decide) h
end
end

section
open PySem PySem.W PyProof.Rows PySem.Calls PySem.Spec
theorem kwLoopS : True := by
  k_with_none
  w_top off
  trivial
section
variable {fs : List Addr} {h₀ g h : Heap} {L : Addr} {m : Str → Option Value} {news : List (Addr × Obj)}
theorem weak_Fr (T : KtsTurn fs h₀ g) (F : Fr g L h m) : Fr (hideAll h₀ fs) L h m :=
  ⟨F.ns, fun b o e => F.keep b o (T.other b o (of_hideAll _ e) (fun hm => by rw [hideAll_none fs hm] at e; cases e)), by rw [hideAll_size, ← T.size]; exact F.above⟩
theorem weak_News (T : KtsTurn fs h₀ g) (N : News g L h news) : News (hideAll h₀ fs) L h news := fun p hp => ⟨(N p hp).1, (N p hp).2.1, by
  cases q : (hideAll h₀ fs).get? p.1 with
  | none => rfl
  | some o =>
    obtain ⟨sl, e⟩ := T.up (of_hideAll _ q)
    rw [(N p hp).2.2] at e; cases e⟩
/-- the frames' objects, as they stand in h -/
noncomputable def FrL (fs : List Addr) (h₀ : Heap) (frl : List (Addr × Obj)) : Prop := (∀ p ∈ frl, p.1 ∈ fs ∧ ∃ o sl, h₀.get? p.1 = some o ∧ p.2 = { o with slots := sl }) ∧ ∀ b ∈ fs, ∃ p ∈ frl, p.1 = b
theorem weak_frl (hfs : ∀ b ∈ fs, ∃ o, h₀.get? b = some o) (hL : ∀ b ∈ fs, b ≠ L) (T : KtsTurn fs h₀ g) (F : Fr g L h m) : ∃ frl, FrL fs h₀ frl ∧ News (hideAll h₀ fs) L h frl := by
  suffices H : ∀ l : List Addr, (∀ b ∈ l, b ∈ fs) → ∃ frl : List (Addr × Obj), (∀ p ∈ frl, p.1 ∈ fs ∧ ∃ o sl, h₀.get? p.1 = some o ∧ p.2 = { o with slots := sl }) ∧ (∀ b ∈ l, ∃ p ∈ frl, p.1 = b) ∧ News (hideAll h₀ fs) L h frl by
    obtain ⟨frl, a, b, c⟩ := H fs fun b hb => hb
    exact ⟨frl, ⟨a, b⟩, c⟩
  intro l
  induction l with
  | nil => exact fun _ => ⟨[], fun p hp => (nomatch hp), fun b hb => (nomatch hb), fun p hp => nomatch hp⟩
  | cons b l ih =>
    intro hs
    obtain ⟨frl, a1, a2, a3⟩ := ih fun b hb => hs b (List.mem_cons_of_mem _ hb)
    have hb := hs b List.mem_cons_self
    obtain ⟨o, ho⟩ := hfs b hb
    obtain ⟨sl, hsl⟩ := T.frame b o ho hb
    refine ⟨(b, { o with slots := sl }) :: frl, fun p hp => ?_, fun b' hb' => ?_, fun p hp => ?_⟩
    · rcases List.mem_cons.mp hp with rfl | hp
      · exact ⟨hb, o, sl, ho, rfl⟩
      · exact a1 p hp
    · rcases List.mem_cons.mp hb' with rfl | hb'
      · exact ⟨_, List.mem_cons_self, rfl⟩
      · obtain ⟨p, hp, e⟩ := a2 b' hb'
        exact ⟨p, List.mem_cons_of_mem _ hp, e⟩
    · rcases List.mem_cons.mp hp with rfl | hp
      · exact ⟨F.keep _ _ hsl, hL b hb, hideAll_none fs hb⟩
      · exact a3 p hp
theorem strong {frl : List (Addr × Obj)} (hfs : ∀ b ∈ fs, ∃ o, h₀.get? b = some o) (F : Fr (hideAll h₀ fs) L h m) (hf : FrL fs h₀ frl) (N : News (hideAll h₀ fs) L h frl) :
    ∃ g, KtsTurn fs h₀ g ∧ Fr g L h m ∧ ∀ news, News (hideAll h₀ fs) L h news → (∀ p ∈ news, p.1 ∉ fs) → News g L h news := by
  obtain ⟨T, S⟩ := kts_turn_at (h := h) hfs (fun b o e nm => F.keep b o (hideAll_get fs e nm)) (fun b o e hb => by
    obtain ⟨p, hp, rfl⟩ := hf.2 b hb
    obtain ⟨-, o', sl, ho, e2⟩ := hf.1 p hp
    rw [e] at ho; cases ho
    exact ⟨sl, by rw [← e2]; exact (N p hp).1⟩)
  refine ⟨_, T, ⟨F.ns, S, by rw [T.size]; have := F.above; rwa [hideAll_size] at this⟩, fun news N' off p hp => ⟨(N' p hp).1, (N' p hp).2.1, T.none_ _ ?_⟩⟩
  cases q : h₀.get? p.1 with
  | none => rfl
  | some o =>
    have e := hideAll_get fs q (off p hp)
    rw [(N' p hp).2.2] at e; cases e
theorem below_turn {A₀ : Around} {base g' : Heap} {outer : List Env} (K : Below A₀ base outer g) (T : KtsTurn (outer.filterMap (·.frame)) g g') : Below A₀ base outer g' :=
  ⟨K.stack, fun b o e => T.other b o (K.stays b o e) (fun hm => by
    rw [(K.frames.mem hm).1] at e
    cases e), K.frames.of_keeps fun b o e _ => by
      obtain ⟨sl, hs⟩ := T.up e
      exact ⟨_, hs, rfl⟩⟩
end
/-- the end of a turn of a loop in which the outer frames' slots may turn -/
noncomputable def TurnS (fs : List Addr) (g : Heap) (L : Addr) (m₀ : Str → Option Value) (x x1 x2 : Str) (nx : List (Addr × Obj)) (s₁ : Shared) (f : Flow) (s₂ : Shared) : Prop :=
  f = .next ∧ ∃ (g' h' : Heap) (tk : Nat) (u u1 u2 : Str → Option Value), s₂ = { s₁ with heap := h', toks := tk } ∧ KtsTurn fs g g' ∧ Fr g' L h' (fun y => if y = x then u y else if y = x1 then u1 y else if y = x2 then u2 y else m₀ y) ∧ News g' L h' nx
section
variable {prog : Program} {w : World} {A : Around} {E : Value → Shared → Prop} {s : Shared} {h₀ : Heap} {env : Env} {x x1 x2 : Str} {body : List Stmt} {Q : Flow → Shared → Prop} {m₀ : Str → Option Value} {news : List (Addr × Obj)} {fs : List Addr}
theorem m_three {m m₀ : Str → Option Value} {x x1 x2 : Str} (h : ∀ z, z ≠ x → z ≠ x1 → z ≠ x2 → m z = m₀ z) : m = fun y => if y = x then m y else if y = x1 then m y else if y = x2 then m y else m₀ y := by
  funext y
  by_cases h1 : y = x
  · rw [if_pos h1]
  · by_cases h2 : y = x1
    · rw [if_neg h1, if_pos h2]
    · by_cases h3 : y = x2
      · rw [if_neg h1, if_neg h2, if_pos h3]
      · rw [if_neg h1, if_neg h2, if_neg h3]; exact h y h1 h2 h3
theorem ints_at {vs : List Value} {cs : List Int} (h : IntsAre vs cs) : ∀ (i : Nat) (v : Value), vs[i]? = some v → ∃ (t : Tok) (c : Int), cs[i]? = some c ∧ v = Value.int c t := by
  induction h with
  | nil => exact fun i v h => nomatch h
  | cons k t r ih =>
    intro i v h
    cases i with
    | zero => exact ⟨t, k, rfl, (Option.some.inj h).symm⟩
    | succ i => exact ih i v h
theorem m_store {m m₀ : Str → Option Value} {x x1 x2 : Str} {v : Value} (h : ∀ z, z ≠ x → z ≠ x1 → z ≠ x2 → m z = m₀ z) : (fun y => if y = x then some v else m y) = fun y => if y = x then some v else if y = x1 then m y else if y = x2 then m y else m₀ y := by
  funext y
  by_cases h1 : y = x
  · rw [if_pos h1, if_pos h1]
  · rw [if_neg h1, if_neg h1]; exact (congrFun (m_three h) y).trans (if_neg h1)
theorem loopS {D S : Nat} {oS : Obj} {vs : List Value} {cs : List Int} {nn : Nat} (hh : A.handled = none) (hfs : ∀ b ∈ fs, ∃ o, h₀.get? b = some o)
    (F : Fr h₀ env.locals s.heap m₀) (N : News h₀ env.locals s.heap ((D, listOf vs.toArray nn) :: (S, oS) :: news)) (hD : ∀ p ∈ (S, oS) :: news, p.1 ≠ D) (hS : ∀ p ∈ news, p.1 ≠ S) (hi : IntsAre vs cs)
    (turn : ∀ (i : Nat) (c : Int) (t : Tok) (u1 u2 : Str → Option Value) (g h : Heap) (tk : Nat) (rest : List (Addr × Obj)), cs[i]? = some c → KtsTurn fs h₀ g → (∀ p ∈ rest, p.1 ≠ S) → Fr g env.locals h (fun y => if y = x then some (.int c t) else if y = x1 then u1 y else if y = x2 then u2 y else m₀ y) → News g env.locals h ((S, oS) :: rest) →
      wpAny (model prog w) A (execs body env) (TurnS fs g env.locals m₀ x x1 x2 ((S, oS) :: rest) { s with heap := h, toks := tk }) E { s with heap := h, toks := tk })
    (done : ∀ (g : Heap) (u u1 u2 : Str → Option Value) (h : Heap) (tk : Nat), KtsTurn fs h₀ g → Fr g env.locals h (fun y => if y = x then u y else if y = x1 then u1 y else if y = x2 then u2 y else m₀ y) → News g env.locals h ((S, oS) :: news) → Q .next { s with heap := h, toks := tk }) :
    wpAny (model prog w) A (pyIter (.ref D)) (fun it s₂ => LoopAtV prog w A (hideAll h₀ fs) env x body Q E it s₂) E s := by
  have hDo := N _ (.head _)
  have hLfs : ∀ b ∈ fs, b ≠ env.locals := fun b hb e => by
    obtain ⟨o, ho⟩ := hfs b hb
    rw [e, kts_self F] at ho; cases ho
  have offs : ∀ {l : List (Addr × Obj)} {g h : Heap}, KtsTurn fs h₀ g → News g env.locals h l → ∀ p ∈ l, p.1 ∉ fs := fun T N p hp hm => by
    obtain ⟨o, ho⟩ := hfs _ hm
    obtain ⟨sl, e⟩ := T.up ho
    rw [(N p hp).2.2] at e; cases e
  have hl : s.heap.IsList D vs.toArray := ⟨_, hDo.1, rfl, nn, rfl⟩
  have hne : D ≠ s.heap.objs.size := Nat.ne_of_lt (Heap.lt_size hDo.1)
  refine wpAny_pyIter_list hl ?_
  have W := Walks.list (prog := prog) (w := w) hh s.heap.objs.size D hne vs.toArray
  have hlen : vs.toArray.size = cs.length := by simp [hi.length]
  have T0 : KtsTurn fs h₀ h₀ := KtsTurn.refl
  have N0 : News h₀ env.locals s.heap ((S, oS) :: news) := fun p hp => N p (.tail _ hp)
  obtain ⟨frl0, hfl0, Nf0⟩ := weak_frl hfs hLfs T0 F
  have hI0 : h₀.get? s.heap.objs.size = none := next_is_new F
  have hIw : (hideAll h₀ fs).get? s.heap.objs.size = none := by
    cases q : (hideAll h₀ fs).get? s.heap.objs.size with
    | none => rfl
    | some o => have := of_hideAll _ q; rw [hI0] at this; cases this
  have hIfs : s.heap.objs.size ∉ fs := fun hm => by
    obtain ⟨o, ho⟩ := hfs _ hm
    rw [hI0] at ho; cases ho
  have hDfs : D ∉ fs := offs T0 N (D, _) (.head _)
  have up : ∀ {l : List (Addr × Obj)} {h' : Heap}, News h' env.locals s.heap l → News h' env.locals (s.heap.push { cls := .type "list_iterator", data := .fields #[.ref D, .int 0 0] }) l := fun N p hp => ⟨Heap.get?_push_of_some _ (N p hp).1, (N p hp).2⟩
  refine LoopAtV_mk (s := { s with heap := s.heap.push { cls := .type "list_iterator", data := .fields #[.ref D, .int 0 0] } }) (news := frl0 ++ (S, oS) :: news) (fun _ m nx => (∃ frl, FrL fs h₀ frl ∧ nx = frl ++ (S, oS) :: news) ∧ ∀ z, z ≠ x → z ≠ x1 → z ≠ x2 → m z = m₀ z) W ?_ ?_ ?_ ⟨⟨_, Heap.get?_push_size _ rfl, rfl, rfl⟩, hl.at fun o e => Heap.get?_push_of_some _ e⟩ ((weak_Fr T0 F).push _) (up (fun p hp => ?_)) ⟨⟨frl0, hfl0, rfl⟩, fun _ _ _ _ => rfl⟩ ?_ ?_
  · intro hm
    rcases List.mem_cons.mp hm with e | hm
    · exact absurd F.ns.lt (e ▸ Nat.lt_irrefl _)
    · exact hDo.2.1 (List.mem_singleton.mp hm).symm
  · intro b hb; rw [List.mem_singleton.mp hb]; exact hIw
  · intro p hp hI
    have hI' := List.mem_singleton.mp hI
    rcases List.mem_append.mp hp with q | q
    · exact hIfs (hI' ▸ (hfl0.1 p q).1)
    · exact absurd (Heap.lt_size (N0 p q).1) (hI' ▸ Nat.lt_irrefl _)
  · rcases List.mem_append.mp hp with q | q
    · exact Nf0 p q
    · exact weak_News T0 N0 p q
  · rintro i v m₁ nx own h tk hin hP ⟨⟨frl, hfl, rfl⟩, hm⟩ hoff F₁ N₁
    obtain ⟨t, c, hc, rfl⟩ := ints_at hi i v (by simpa using hP)
    have Nfr : News (hideAll h₀ fs) env.locals h frl := fun p hp => N₁ p (List.mem_append_right _ (List.mem_append_left _ hp))
    have Ns : News (hideAll h₀ fs) env.locals h ((S, oS) :: (own ++ news)) := fun p hp => N₁ p (by
      rcases List.mem_cons.mp hp with rfl | hp
      · exact List.mem_append_right _ (List.mem_append_right _ (.head _))
      · rcases List.mem_append.mp hp with hp | hp
        · exact List.mem_append_left _ hp
        · exact List.mem_append_right _ (List.mem_append_right _ (.tail _ hp)))
    have ownfs : ∀ p ∈ own, p.1 ∉ fs := fun p hp hm => by
      have := hoff p hp
      rcases List.mem_cons.mp this with e | e
      · exact hIfs (e ▸ hm)
      · exact hDfs (List.mem_singleton.mp e ▸ hm)
    obtain ⟨g, T, Fg, Ng⟩ := strong hfs F₁ hfl Nfr
    have Ng' := Ng _ Ns (fun p hp => by
      rcases List.mem_cons.mp hp with rfl | hp
      · exact offs T0 N0 _ (.head _)
      · rcases List.mem_append.mp hp with hp | hp
        · exact ownfs p hp
        · exact offs T0 N0 _ (.tail _ hp))
    rw [m_store hm] at Fg
    have hoS : ∀ p ∈ own ++ news, p.1 ≠ S := fun p hp => by
      rcases List.mem_append.mp hp with q | q
      · have := hoff p q
        rcases List.mem_cons.mp this with e | e
        · rw [e]; exact Ne.symm (Nat.ne_of_lt (Heap.lt_size (N0 (S, oS) (.head _)).1))
        · rw [List.mem_singleton.mp e]; exact Ne.symm (hD (S, oS) (.head _))
      · exact hS p q
    refine wpAny_mono (turn i c t m₁ m₁ g h tk (own ++ news) hc T hoS Fg Ng') (fun f s₂ h₂ => ?_) fun _ _ e => e
    obtain ⟨rfl, g', h', tk', u, u1, u2, rfl, T', F', N'⟩ := h₂
    have T2 := T.trans T'
    obtain ⟨frl', hfl', Nf'⟩ := weak_frl hfs hLfs T2 F'
    refine .next ⟨rfl, h', tk', _, frl' ++ (S, oS) :: news, rfl, weak_Fr T2 F', fun p hp => ?_, fun p hp hI => ?_, ⟨frl', hfl', rfl⟩, fun z z1 z2 z3 => ?_⟩
    · rcases List.mem_append.mp hp with hp | hp
      · exact weak_News T2 N' p (.tail _ (List.mem_append_left _ hp))
      · rcases List.mem_append.mp hp with hp | hp
        · exact Nf' p hp
        · exact weak_News T2 N' p ((List.mem_cons.mp hp).elim (fun e => e ▸ .head _) fun q => .tail _ (List.mem_append_right _ q))
    · have hI' := List.mem_singleton.mp hI
      rcases List.mem_append.mp hp with q | q
      · exact hIfs (hI' ▸ (hfl'.1 p q).1)
      · exact absurd (Heap.lt_size (N0 p q).1) (hI' ▸ Nat.lt_irrefl _)
    · show (if z = x then _ else if z = x1 then _ else if z = x2 then _ else _) = _
      rw [if_neg z1, if_neg z2, if_neg z3]
  · rintro h' tk m' nx F' N' ⟨⟨frl, hfl, rfl⟩, hm⟩
    obtain ⟨g, T, Fg, Ng⟩ := strong hfs F' hfl fun p hp => N' p (List.mem_append_left _ hp)
    rw [m_three hm] at Fg
    exact done g m' m' m' h' tk T Fg (Ng _ (fun p hp => N' p (List.mem_append_right _ hp)) (offs T0 N0))
end
end

section
open PySem PySem.W PyProof.Rows PySem.Calls PySem.Spec
theorem kwCodes : True := by
  k_with_none
  w_top off
  trivial
section
variable {w : World} {mean : ExcName → Option Value} {mg mb : Str → Option Value}
/-- the shape of a contract for the law's own body: nothing stands below its frame -/
theorem kwCodes_1 : True := by
  k_with_none
  k_with "storeName" => ((k_dflt (refine' storeL ?F ?N ?a ?b ?_; (case F => k_asm); (case N => k_asm); (case a => rfl); (case b => rfl); k_whole; intro mszz hszz tszz Fszz Nszz; (try k_sweep))))
  k_with "leaveF" => ((k_dflt (first | (refine' leaveF_ret ?k1 ?k2 ?_; (case k1 => k_asm); (case k2 => k_asm); k_whole) | (refine' leaveF_next ?k1 ?k2 ?_; (case k1 => k_asm); (case k2 => k_asm); k_whole)); intro kFlzz kNlzz; ground_anew kFlzz))
  k_with "ktr_room" => (((try dsimp only [depth_under_make, depth_under_kw, depth_in1, depth_deeper]); first | exact room1 (by assumption) (by decide) | exact room2 (by assumption) (by decide) | exact room0 (by assumption) | exact room3 (by assumption) (by decide) | exact room4 (by assumption) (by decide)))
  k_with "ktr_units" => (((try dsimp only [units_under_make, units_in1, units_deeper, Around.mark_units]); first | exact room1 (by assumption) (by decide) | exact room2 (by assumption) (by decide) | exact room0 (by assumption) | exact room3 (by assumption) (by decide) | exact room4 (by assumption) (by decide)))
  k_with "k_ne" => ((refine neN ?_; (try dsimp only); first | assumption | exact Ne.symm (by assumption) | exact Nat.ne_of_gt (by assumption) | exact Nat.ne_of_lt (by assumption) | exact neP1 (by assumption) | exact neP2 (by assumption) | exact neP3 (by assumption) | exact neP4 (by assumption) | exact neP5 (by assumption)))
  trivial
noncomputable abbrev CbZ (w : World) (mean : ExcName → Option Value) (mg mb : Str → Option Value) (f : Addr) (dd uu : Nat) (news : List (Addr × Obj)) (vs : List Value) (Post : List (Addr × Obj) → Value → Prop) : Prop :=
  ∀ (dp un : Nat) (gd : Option (List Code)) (cn : Str) (cs : Scope) (a : Addr) (ccd : Value) (cl : List (Str × Addr)) (A₀ : Around) (base h₀ : Heap) (L : Addr) (m : Str → Option Value) (s : Shared) (Q E : Value → Shared → Prop),
    Below A₀ base [] h₀ → Fr h₀ L s.heap m → InK w h₀ → News h₀ L s.heap news → TopK mean mg mb h₀ → InK w base → TopK mean mg mb base → cs.kind = .function →
    dp + dd < recursionLimit → un + uu < cLine →
    (∀ (r : Value) (news' : List (Addr × Obj)) (h' : Heap) (tk' : Nat), Fr h₀ L h' m → News h₀ L h' news' → Post news' r → Q r { s with heap := h', toks := tk' }) →
      wpAny (model PySem.Challenge.rw_pf0201_01.row.prog w) (ktrTop dp un gd cn cs L a ccd cl []) (call (.ref f) vs) Q E s
theorem useS {f : Addr} {dd uu : Nat} {news : List (Addr × Obj)} {vs : List Value} {Post : List (Addr × Obj) → Value → Prop} {dp un : Nat} {gd : Option (List Code)} {cn : Str} {cs : Scope} {a : Addr} {ccd : Value} {outer : List Env} {A₀ : Around} {base h₀ : Heap} {L : Addr} {m : Str → Option Value} {s : Shared} {Q E : Value → Shared → Prop}
    (c : CbS w mean mg mb f dd uu news vs Post) (B : Below A₀ base outer h₀) (F : Fr h₀ L s.heap m) (X : InK w h₀) (N : News h₀ L s.heap news) (T : TopK mean mg mb h₀) (XB : InK w base) (TB : TopK mean mg mb base) (D : KtsDicts (frs outer) h₀) (hk : cs.kind = .function) (hd' : dp + dd < recursionLimit) (hu : un + uu < cLine)
    (ret : ∀ (r : Value) (news' : List (Addr × Obj)) (h' : Heap) (tk' : Nat) (h₀' : Heap), KtsTurn (frs outer) h₀ h₀' → Fr h₀' L h' m → News h₀' L h' news' → Below A₀ base outer h₀' → InK w h₀' → TopK mean mg mb h₀' → KtsDicts (frs outer) h₀' → Post news' r → Q r { s with heap := h', toks := tk' }) :
    wpAny (model PySem.Challenge.rw_pf0201_01.row.prog w) (ktrTop dp un gd cn cs L a ccd [] outer) (call (.ref f) vs) Q E s :=
  c _ _ _ _ _ _ _ _ _ _ _ _ _ _ _ _ B F X N T XB TB D hk hd' hu ret
end
section
variable {prog : Program} {w : World} {A₀ A : Around} {s : Shared} {base h₀ : Heap} {L a : Addr} {m : Str → Option Value} {cn : Str} {cs : Scope} {ccd : Value} {cl : List (Str × Addr)} {news : List (Addr × Obj)} {K : Frag} {p : Program} {loose : List Str} {mean : ExcName → Option Value} {mg mb : Str → Option Value}
    {R : Result → Shared → Prop} {name qual : Str} {params : Arguments} {body : List Stmt} {scope : Scope} {dV kV doc pm cdv ct oc : Value} {an od : Option Addr} {osl : Array (Option Value)} {f : Addr} {args : Args} {binds : List (Str × Value)}
theorem code_defZ (B : Below A₀ base [] h₀) (F : Fr h₀ L s.heap m) (X₀ : K.In h₀) (N : News h₀ L s.heap news) (T : Top p loose mean mg mb h₀) (hA : A.frames = some [envX cn cs L a ccd cl])
    (ho : K.lookup f = some ⟨oc, od, .func (fnOf name qual params body scope dV kV doc pm an cdv ct), osl⟩) (hcd : codeIn K cdv qual = true) (hroom : A.depth < recursionLimit)
    (hbind : BindsTo s (fnOf name qual params body scope dV kV doc pm an cdv ct) args binds) (hloc : ∀ y ∈ binds, scope.names.lookup y.1 = some .local)
    (h : ∀ g L' h₁, Fr h₀ L g m → Fr g L' h₁ (fun y => binds.reverse.lookup y) → News g L' h₁ news → Below A base [envX cn cs L a ccd cl] g → K.In g → Top p loose mean mg mb g → KtsDicts ([envX cn cs L a ccd cl].filterMap (·.frame)) g →
      wpAny (model prog w) (A.deeper (envOf qual scope L' f cdv)) (execs body (envOf qual scope L' f cdv))
        (fun fl s' => LeaveS0 ([envX cn cs L a ccd cl].filterMap (·.frame)) h₀ L m g R (match fl with | .ret v => v | _ => .none) s')
        (fun e s' => wpAny (model prog w) (A.deeper (envOf qual scope L' f cdv)) (leaving (envOf qual scope L' f cdv) e) (fun _ s'' => R (.error e) s'') (fun e' s'' => R (.error e') s'') s')
        { s with heap := h₁, toks := s.toks + binds.length })
    (hck : cs.kind = .function) (hco : scope.isCoroutine = false) (hgen : scope.isGenerator = false) (hk : scope.kind = .function)
    (hcell : ∀ x ∈ scope.names, x.2 ≠ .cell) : codeAny (model prog w) A (.call (.ref f) args) R s := by
  have X := X₀.keeps F.keep
  obtain ⟨FG, BG, st, -⟩ := groundX (R := R) B F N hA rfl hck
  refine codeAny_call_def (fd := fnOf name qual params body scope dV kV doc pm an cdv ct) (body := body) (binds := binds) hroom (X _ _ ho) rfl (T.nolimit.keeps F.keep) (codeRec_of X hcd) rfl hbind hcell hloc (fun h₁ hns hk₁ => ?_) hco hgen hk
  obtain ⟨oL, es, ep, hLg, hLd, hLk, hLf⟩ := FG.ns
  have mem : ∀ b, b ∈ [envX cn cs L a ccd cl].filterMap (·.frame) → b = L := fun b hb => List.mem_singleton.mp hb
  refine wpAny_mono (h _ s.heap.objs.size h₁ FG ⟨hns, fun b o e => hk₁ b o (of_hideAll _ e), Nat.le_of_eq (hideAll_size _ _)⟩
    (fun p hp => ⟨hk₁ _ _ (N p hp).1, Nat.ne_of_lt (Heap.lt_size (N p hp).1), hideAll_none _ (List.mem_map_of_mem hp)⟩) BG (X₀.keeps st) (T.keeps st) (fun b hb => by
      rw [mem b hb]; exact ⟨oL, es, ep, hLg, hLd⟩)) (fun fl s' hl => ?_) fun _ _ y => y
  obtain ⟨g', L', m', news', T', F', N', k⟩ := hl
  have nL₀ : h₀.get? L = none := kts_self F
  obtain ⟨sl, hs⟩ := T'.up hLg
  refine k ⟨⟨_, es, ep, F'.keep _ _ hs, hLd, hLk, hLf⟩, fun b o e => F'.keep b o (T'.other b o (st b o e) (fun q => by
    rw [mem b q, nL₀] at e
    cases e)), F.above⟩ fun p hp => ⟨(N' p hp).1, fun q => ?_, ?_⟩
  · have := (N' p hp).2.2; rw [q, hs] at this; cases this
  · cases q : h₀.get? p.1 with
    | none => rfl
    | some o =>
      obtain ⟨sl', hs'⟩ := T'.up (st _ _ q)
      have := (N' p hp).2.2
      rw [hs'] at this
      cases this
theorem turnS_mk {fs : List Addr} {g g' h' : Heap} {L : Addr} {m₀ m' : Str → Option Value} {x x1 x2 : Str} {nx : List (Addr × Obj)} {s₁ : Shared} {tk : Nat} (T : KtsTurn fs g g') (F : Fr g' L h' m') (N : News g' L h' nx) (hm : ∀ z, z ≠ x → z ≠ x1 → z ≠ x2 → m' z = m₀ z) :
    TurnS fs g L m₀ x x1 x2 nx s₁ .next { s₁ with heap := h', toks := tk } := by
  rw [m_three hm] at F
  exact ⟨rfl, g', h', tk, m', m', m', rfl, T, F, N⟩
theorem For_S {E : Value → Shared → Prop} {Q : Flow → Shared → Prop} {env : Env} {x : Str} {px pos : Pos} {iter : PySem.Expr} {body : List Stmt} {fs : List Addr} {g : Heap} (_hfs : ∀ b ∈ fs, ∃ o, g.get? b = some o) (hx : env.kindOf x = some .local)
    (hp : (env.scope.kind == .class || (env.scope.kind == .module && env.locals != env.globals)) = false)
    (h : wpAny (model prog w) A (eval iter env) (fun xv s₁ => wpAny (model prog w) A (pyIter xv) (fun it s₂ => LoopAtV prog w A (hideAll g fs) env x body Q E it s₂) E s₁) E s)
    (hs : ∀ x, foldedSetIterable iter env x = pure x := by intro _; rfl)
    (hE : PassesOwn (model prog w) A env E := by passes_own) :
    wpAny (model prog w) A (exec (.For (.Name x px) iter body [] pos) env) Q E s := For_invV (hideAll g fs) hx hp h hs hE
theorem l_sub5 (a b c d e f g h i j k : Addr × Obj) (l : List (Addr × Obj)) : ∀ p ∈ a :: b :: c :: d :: e :: k :: l, p ∈ a :: b :: c :: d :: e :: f :: g :: h :: i :: j :: k :: l := by
  exact List.forall_mem_cons.mpr ⟨.head _, List.forall_mem_cons.mpr ⟨.tail _ (.head _), List.forall_mem_cons.mpr ⟨.tail _ (.tail _ (.head _)), List.forall_mem_cons.mpr ⟨.tail _ (.tail _ (.tail _ (.head _))), List.forall_mem_cons.mpr ⟨.tail _ (.tail _ (.tail _ (.tail _ (.head _)))), List.forall_mem_cons.mpr ⟨.tail _ (.tail _ (.tail _ (.tail _ (.tail _ (.tail _ (.tail _ (.tail _ (.tail _ (.tail _ (.head _)))))))))), fun p hp => .tail _ (.tail _ (.tail _ (.tail _ (.tail _ (.tail _ (.tail _ (.tail _ (.tail _ (.tail _ (.tail _ (hp)))))))))))⟩⟩⟩⟩⟩⟩
theorem l_swap (a b : Addr × Obj) (l : List (Addr × Obj)) : ∀ p ∈ a :: b :: l, p ∈ b :: a :: l := by
  exact List.forall_mem_cons.mpr ⟨.tail _ (.head _), List.forall_mem_cons.mpr ⟨.head _, fun p hp => .tail _ (.tail _ (hp))⟩⟩
theorem frames_at {A : Around} {base g : Heap} {outer : List Env} (B : Below A base outer g) : ∀ b ∈ outer.filterMap (·.frame), ∃ o, g.get? b = some o := fun b hb => by
  obtain ⟨_, o, ho, _⟩ := B.frames.mem hb
  exact ⟨o, ho⟩
end
section
variable {w : World} {mean : ExcName → Option Value} {mg mb : Str → Option Value}
theorem kwCodes_2 : True := by
  k_with_none
  k_with "storeName" => ((k_dflt (refine' storeL ?F ?N ?a ?b ?_; (case F => k_asm); (case N => k_asm); (case a => rfl); (case b => rfl); k_whole; intro mszz hszz tszz Fszz Nszz; (try k_sweep))))
  k_with "leaveF" => ((k_dflt (first | (refine' leaveF_ret ?k1 ?k2 ?_; (case k1 => k_asm); (case k2 => k_asm); k_whole) | (refine' leaveF_next ?k1 ?k2 ?_; (case k1 => k_asm); (case k2 => k_asm); k_whole)); intro kFlzz kNlzz; ground_anew kFlzz))
  k_with "ktr_room" => (((try dsimp only [depth_under_make, depth_under_kw, depth_in1, depth_deeper]); first | exact room1 (by assumption) (by decide) | exact room2 (by assumption) (by decide) | exact room0 (by assumption) | exact room3 (by assumption) (by decide) | exact room4 (by assumption) (by decide)))
  k_with "ktr_units" => (((try dsimp only [units_under_make, units_in1, units_deeper, Around.mark_units]); first | exact room1 (by assumption) (by decide) | exact room2 (by assumption) (by decide) | exact room0 (by assumption) | exact room3 (by assumption) (by decide) | exact room4 (by assumption) (by decide)))
  k_with "k_ne" => ((refine neN ?_; (try dsimp only); first | assumption | exact Ne.symm (by assumption) | exact Nat.ne_of_gt (by assumption) | exact Nat.ne_of_lt (by assumption) | exact neP1 (by assumption) | exact neP2 (by assumption) | exact neP3 (by assumption) | exact neP4 (by assumption) | exact neP5 (by assumption)))
  k_with "k_all" => (assumption)
  k_with "execs cons" => (((with_reducible show wpAny _ _ _ _ _ (PySem.Shared.mk _ _ _ (_ + 1) _)); refine genToks ?_; intro tk9zz))
  k_with "eval Constant int" => ((refine constG ?_; intro t9zz tk9zz))
  k_with "ke_room" => (ktr_units)
  k_with "k_room" => (((try simp only [depth_under_make, depth_under_kw, depth_in1]); ktr_room))
  trivial
theorem codes_c (xs cs : List Int) (hx : GoodX xs) (hcs : ∀ c ∈ cs, c ∈ codes26) (D S kd k : Nat) (vs vc : List Value) (news : List (Addr × Obj)) (hv : IntsAre vs xs) (hvc : IntsAre vc cs) (hD : ∀ p ∈ (S, listOf vs.toArray k) :: news, p.1 ≠ D) (hS : ∀ p ∈ news, p.1 ≠ S) :
    CbZ w mean mg mb 555 150 8000 ((D, listOf vc.toArray kd) :: (S, listOf vs.toArray k) :: news) [.ref S, .ref D] (fun n' r => n' = (S, listOf vs.toArray k) :: news ∧ r = .bool true) := by
  intro dpY unY gdY cnY csY acY ccY clY a0Y baY h0Y LY mY sY QY EY aB aF aX aN aT aXB aTB akY adY auY hret
  have hl1 := hv.length
  have hl2 := hx.len
  refine wpAny_call ?_
  k_dflt (refine' code_defZ (K := hd.heap_1 w.params) ?k1 ?k2 ?k3 ?k4 ?k5 ?kA ?k6 ?k7 ?k8 ?k9 ?kB ?_ ?c1 ?c2 ?c3 ?c4 ?c5; (case k1 => k_asm); (case k2 => k_asm); (case k3 => k_asm); (case k4 => k_asm); (case k5 => k_asm); (case kA => exact rfl); (case k6 => k_is); (case k7 => k_is); (case k8 => ktr_room); (case k9 => exact BindsTo.of_eq rfl); (case kB => exact locs rfl); (case c1 => assumption); (case c2 => exact rfl); (case c3 => exact rfl); (case c4 => exact rfl); (case c5 => decide); k_whole; intro g' L' h' FG' F' N' B' X' T' D'; (try dsimp only); (try k_lift B'); (try k_fold))
  have hfs := frames_at B'
  k_with_none
  k_with "storeName" => ((k_dflt (refine' storeL ?F ?N ?a ?b ?_; (case F => k_asm); (case N => k_asm); (case a => rfl); (case b => rfl); k_whole; intro mszz hszz tszz Fszz Nszz; (try k_sweep))))
  k_with "leaveF" => ((k_dflt (first | (refine' leaveF_ret ?k1 ?k2 ?_; (case k1 => k_asm); (case k2 => k_asm); k_whole) | (refine' leaveF_next ?k1 ?k2 ?_; (case k1 => k_asm); (case k2 => k_asm); k_whole)); intro kFlzz kNlzz; ground_anew kFlzz))
  k_with "ktr_room" => (((try dsimp only [depth_under_make, depth_under_kw, depth_in1, depth_deeper]); first | exact room1 (by assumption) (by decide) | exact room2 (by assumption) (by decide) | exact room0 (by assumption) | exact room3 (by assumption) (by decide) | exact room4 (by assumption) (by decide)))
  k_with "ktr_units" => (((try dsimp only [units_under_make, units_in1, units_deeper, Around.mark_units]); first | exact room1 (by assumption) (by decide) | exact room2 (by assumption) (by decide) | exact room0 (by assumption) | exact room3 (by assumption) (by decide) | exact room4 (by assumption) (by decide)))
  k_with "k_ne" => ((refine neN ?_; (try dsimp only); first | assumption | exact Ne.symm (by assumption) | exact Nat.ne_of_gt (by assumption) | exact Nat.ne_of_lt (by assumption) | exact neP1 (by assumption) | exact neP2 (by assumption) | exact neP3 (by assumption) | exact neP4 (by assumption) | exact neP5 (by assumption)))
  k_with "k_all" => (assumption)
  k_with "execs cons" => (((with_reducible show wpAny _ _ _ _ _ (PySem.Shared.mk _ _ _ (_ + 1) _)); refine genToks ?_; intro tk9zz))
  k_with "eval Constant int" => ((refine constG ?_; intro t9zz tk9zz))
  k_with "ke_room" => (ktr_units)
  k_with "k_room" => (((try simp only [depth_under_make, depth_under_kw, depth_in1]); ktr_room))
  k_with "spliced" => first | ((with_reducible show wpAny _ _ (spliced (backTo _ (starEach [PySem.Expr.Name _ _] _))) _ _ _); k_dflt (refine' argsN ?hF ?h0 rfl rfl rfl ?_; (case hF => k_asm); (case h0 => exact rfl); k_whole)) | ((with_reducible show wpAny _ _ (spliced (backTo _ (starEach [PySem.Expr.Constant (Const.int _) _ _] _))) _ _ _); refine argsC ?_; intro t9 tk9) | ((with_reducible show wpAny _ _ (spliced (backTo _ (starEach [PySem.Expr.Name _ _, PySem.Expr.Name _ _] _))) _ _ _); k_dflt (refine' argsNN ?hF ?h0 ?h1 rfl rfl rfl rfl rfl ?_; (case hF => k_asm); (case h0 => exact rfl); (case h1 => exact rfl); k_whole)) | ((with_reducible show wpAny _ _ (spliced (backTo _ (starEach [PySem.Expr.Name _ _, PySem.Expr.Constant (Const.int _) _ _] _))) _ _ _); k_dflt (refine' argsNC ?hF ?h0 rfl rfl rfl ?_; (case hF => k_asm); (case h0 => exact rfl); k_whole); intro t9 tk9) | ((with_reducible show wpAny _ _ (spliced (backTo _ (starEach [PySem.Expr.Name _ _, PySem.Expr.Name _ _, PySem.Expr.Name _ _] _))) _ _ _); k_dflt (refine' argsNNN ?hF ?h0 ?h1 ?h2 rfl rfl rfl rfl rfl rfl rfl ?_; (case hF => k_asm); (case h0 => exact rfl); (case h1 => exact rfl); (case h2 => exact rfl); k_whole))
  k_with "isTrue Compare" => ((with_reducible show wpAny _ _ (isTrue (PySem.Expr.Compare (PySem.Expr.Name _ _) [_] [PySem.Expr.Constant (Const.int _) _ _] _) _ _) _ _ _); k_dflt (refine' tsNC ?hF ?h0 ?hc rfl rfl rfl ?_; (case hF => k_asm); (case h0 => exact rfl); (case hc => exact rfl); k_whole); intro tk9)
  k_with "execs cons" => first | ((with_reducible show wpAny _ _ _ _ _ (PySem.Shared.mk _ _ _ (_ + 1) _)); refine genToks ?_; intro tk9) | (refine consQ ?_; intro q9)
  k_with "flowQ" => first | (refine flow_next ?_) | (refine flow_ret ?_)
  k_with "exec For Name Name cons nil" => first
    | ((with_reducible show wpAny _ _ (exec (Stmt.For (PySem.Expr.Name (Str.ofString "code") _) _ _ _ _) _) _ _ _); (with_unfolding_all refine' For_S hfs ?k1 ?k2 ?_; (case k1 => exact rfl); (case k2 => exact rfl); k_whole))
    | ((rename Fr _ _ _ _ => lF'); (with_unfolding_all refine' For_invVF lF' ?k1 ?k2 ?_; (case k1 => exact rfl); (case k2 => exact rfl); k_whole))
  k_with "pyIter ref" => first
    | ((with_reducible show wpAny _ _ (pyIter (Value.ref D)) _ _ _)
       (k_dflt (refine' loopS (x1 := Str.ofString "work") (x2 := Str.ofString "number") ?lh hfs ?lF ?lN hD hS hvc ?lt ?ld; (case lh => rfl); (case lF => k_asm); (case lN => k_asm)))
       k_dflt (
         intro i9 c9 t9 u1 u2 g9 h9 tk9 rest hc9 T9 hoS F9 N9
         replace F9 : Fr g9 L' h9 _ := F9
         replace N9 : News g9 L' h9 _ := N9
         have B9 := below_turn B' T9
         have X9 : InK w g9 := aXB.keeps B9.stays
         have TT9 : TopK mean mg mb g9 := aTB.keeps B9.stays
         have D9 := D'.turn T9
         obtain ⟨o9, hH, hR⟩ := agree (w := w) (mean := mean) (mg := mg) (mb := mb) (hcs c9 (List.mem_of_getElem? hc9)) hx
         clear hc9)
       rotate_left
       k_dflt (
         intro g9 u0 u1 u2 h9 tk9 T9 F9 N9
         replace F9 : Fr g9 L' h9 _ := F9
         replace N9 : News g9 L' h9 _ := N9
         have B9 := below_turn B' T9
         have X9 : InK w g9 := aXB.keeps B9.stays
         have TT9 : TopK mean mg mb g9 := aTB.keeps B9.stays
         have D9 := D'.turn T9))
    | ((with_reducible show wpAny _ _ (pyIter (Value.ref S)) _ _ _)
       rename News _ _ _ _ => kN
       (k_dflt (refine' loopL (fun i nx => ∃ uu nk, IntsAre uu (xs.take i) ∧ nx = (a6.W, instObj 476 a6.WD) :: (a6.WD, wdObj a6) :: (a6.ST, instObj 425 a6.SD) :: (a6.SD, sdObj a6.h1 a6.h2 a6.t1 a6.t2 8 a6.tm NN) :: (NN, listOf uu.toArray nk) :: (S, listOf vs.toArray k) :: rest) ?qlh ?qll hv ?qlF (kst_newsOf kN (l_sub5 _ _ _ _ _ _ _ _ _ _ _ _)) ?qlj ?qlt ?qld; (case qlh => rfl); (case qll => k_mem); (case qlF => k_asm); (case qlj => exact ⟨[], k6, .nil, rfl⟩)))
       (k_dflt (
         intro i8 n8 t8 nx h8 tk8 own hn hoff hmem hJ F8 N8
         obtain ⟨uu, nk, i6, hJ⟩ := hJ
         subst hJ
         replace F8 : Fr g9 L' h8 _ := F8
         replace N8 : News g9 L' h8 _ := N8
         simp only [List.cons_append] at N8
         have hi8 : i8 < xs.length := (List.getElem?_eq_some_iff.mp hn).1
         have hl9 : uu.length = i8 := by rw [i6.length, List.length_take]; omega
         have hSW : S < a6.WD := hW6 (S, listOf vs.toArray k) (by simp)
         have r9 : ∀ p ∈ rest ++ own, p.1 ≠ NN := by
           intro p hp
           rcases List.mem_append.mp hp with q | q
           · exact Nat.ne_of_lt (Nat.lt_trans (hW6 p (by simp [q])) (by omega))
           · exact hoff p q NN (by simp)))
       rotate_left
       (k_dflt (
         intro u8 nx h8 tk8 hJ F8 N8
         obtain ⟨uu, nk, i6, hJ⟩ := hJ
         subst hJ
         replace F8 : Fr g9 L' h8 _ := F8
         replace N8 : News g9 L' h8 _ := N8
         rw [List.take_length] at i6
         have hSW : S < a6.WD := hW6 (S, listOf vs.toArray k) (by simp)
         have hCh : Chain a6 NN ((S, listOf vs.toArray k) :: rest) := ⟨w1, by omega, w5, w6, (fun p hp => Nat.ne_of_lt (Nat.lt_trans (hW6 p (by simp only [List.mem_cons] at hp ⊢; rcases hp with hp | hp <;> simp [hp])) (by omega))), (fun p hp => Nat.ne_of_lt (Nat.lt_trans (hW6 p (by simp only [List.mem_cons] at hp ⊢; rcases hp with hp | hp <;> simp [hp])) (by omega)))⟩)))
  k_with "InvEndN" => (k_dflt (
      rename News _ _ _ _ => kN
      refine InvEndN.intro (nx := (a6.W, instObj 476 a6.WD) :: (a6.WD, wdObj a6) :: (a6.ST, instObj 425 a6.SD) :: (a6.SD, sdObj a6.h1 a6.h2 a6.t1 a6.t2 8 a6.tm NN) :: (NN, listOf (uu ++ [Value.int n8 t8]).toArray (nk + 1)) :: (S, listOf vs.toArray k) :: rest) (by assumption) kN
        ⟨by simp, ⟨uu ++ [Value.int n8 t8], nk + 1, (by rw [List.take_add_one, hn]; exact ints_snoc i6 _ _), rfl⟩, (by intro z hz; exact if_neg hz)⟩ (by rfl)
        (by intro p hp; first | exact hp | exact List.mem_append_left _ hp | exact List.Mem.tail _ hp | (simp only [List.mem_cons, List.mem_append] at hp ⊢; rcases hp with hp | hp | hp | hp | hp | hp | hp <;> simp [hp])) (by intro p hp; first | exact List.Mem.tail _ (List.Mem.tail _ (List.Mem.tail _ (List.Mem.tail _ (List.Mem.tail _ (List.Mem.tail _ (List.mem_append_right _ hp)))))) | simp [hp])))
  k_with "call ref" => first
    | ((with_reducible show wpAny _ _ (call (Value.ref 476) _) _ _ _); k_dflt (refine' useHw ?uB ?uF ?uX ?uN ?uT ?uk ?ud ?uu ?_; (case uB => k_asm); (case uF => k_asm); (case uX => k_asm); (case uN => k_asm); (case uT => k_asm); (case uk => exact rfl); (case ud => ktr_room); (case uu => ktr_units); k_whole; intro a6 NN k6 STO GS GSD oS6 gO6 h6 tk6 hW6 w1 w2 w3 w4 w5 w6 w7 hd6 hg6 hgs hsto hcv6 F6 N6; clear hd6 hg6 hgs hsto hcv6; have v1 : a6.W < a6.SD := Nat.lt_trans w2 (Nat.lt_trans w3 w4); have v2 : a6.WD < a6.SD := Nat.lt_trans w1 v1; have v3 : a6.SD < NN := Nat.lt_trans w5 w6; have v4 : a6.WD < NN := Nat.lt_trans v2 v3; have v5 : a6.W < NN := Nat.lt_trans v1 v3; have v6 : a6.WD < STO := Nat.lt_trans v4 w7; have v7 : a6.SD < STO := Nat.lt_trans v3 w7; have y1 : a6.W ≠ NN := Nat.ne_of_lt v5; have y2 : a6.WD ≠ NN := Nat.ne_of_lt v4; have y3 : a6.SD ≠ NN := Nat.ne_of_lt v3; clear w2 w3 w4; dsimp only [led] at N6))
    | ((with_reducible show wpAny _ _ (call (Value.ref 394) _) _ _ _); (try dsimp only [List.nil_append, List.cons_append]); k_dflt (refine' useN (push_ok ?m1 ?m2 ?U ?hv ?hm ?hs) ?B ?F ?X ?N ?T ?hk ?hd ?hu ?_; (case B => k_asm); (case F => k_asm); (case X => k_asm); (case N => k_asm); (case T => k_asm); (case m1 => k_mem); (case m2 => k_mem); (case hk => exact rfl); (case hd => ktr_room); (case hu => ktr_units); (case U => k_upd); (case hv => exact i6); (case hm => decide); (case hs => omega); k_whole; intro h' tk' F' N'; (try k_sweep)))
    | ((with_reducible show wpAny _ _ (call (Value.ref 548) _) _ _ _); (try dsimp only [List.nil_append, List.cons_append]); (k_dflt (have hc8 := hH t9 a6 NN uu nk ((S, listOf vs.toArray k) :: rest) i6 hCh; refine' useS hc8 ?uB ?uF ?uX ?uN ?uT ?xB ?xT ?xD ?uk ?ud ?uu ?_; (case uB => k_asm); (case uF => k_asm); (case uX => k_asm); (case uN => k_asm); (case uT => k_asm); (case xB => k_asm); (case xT => k_asm); (case xD => k_asm); (case uk => exact rfl); (case ud => ktr_room); (case uu => ktr_units); k_whole; intro r5 n5 h5 tk5 g5 T5 F5 N5 B5 X5 TT5 D5 P5)); k_dflt (rcases o9 with _ | y9); (k_dflt (obtain ⟨rfl, rfl⟩ := P5)); rotate_left; (k_dflt (obtain ⟨E9, us9, k9, rfl, i9, rfl, hE9⟩ := P5)))
    | ((with_reducible show wpAny _ _ (call (Value.ref 541) [_, Value.ref _]) _ _ _); (try dsimp only [List.nil_append, List.cons_append]); rename News _ _ _ _ => kN; first
        | (k_dflt (have hc8 := hR t9 S vs k rest hv hoS; refine' useM hc8 ?uB ?uF ?uX kN ?uT ?uk ?ud ?uu ?_; (case uB => k_asm); (case uF => k_asm); (case uX => k_asm); (case uT => k_asm); (case uk => exact rfl); (case ud => ktr_room); (case uu => ktr_units); k_whole; intro r4 n4 h4 tk4 P4 F4 N4; obtain ⟨rfl, rfl⟩ := P4))
        | (k_dflt (have hc8 := hR t9 S vs k ((E9, listOf us9.toArray k9) :: rest) hv (by intro p hp; rcases List.mem_cons.mp hp with q | q; exact q ▸ Ne.symm (hE9 _ List.mem_cons_self); exact hoS p q); refine' useM hc8 ?uB ?uF ?uX (kst_newsOf kN (l_swap _ _ _)) ?uT ?uk ?ud ?uu ?_; (case uB => k_asm); (case uF => k_asm); (case uX => k_asm); (case uT => k_asm); (case uk => exact rfl); (case ud => ktr_room); (case uu => ktr_units); k_whole; intro r4 n4 h4 tk4 P4 F4 N4; obtain ⟨E8, us8, k8, rfl, i8, rfl⟩ := P4)))
  k_with "TurnS" => (k_dflt (refine' turnS_mk ?sT ?sF ?sN ?sm; (case sT => assumption); (case sF => k_asm); (case sN => rename News _ _ _ _ => kN; exact kst_newsOf kN (by intro p hp; first | exact hp | exact List.Mem.tail _ hp | exact List.Mem.tail _ (List.Mem.tail _ hp) | exact List.Mem.tail _ (List.Mem.tail _ (List.Mem.tail _ hp)) | exact List.Mem.tail _ (List.Mem.tail _ (List.Mem.tail _ (List.Mem.tail _ hp))) | exact List.Mem.tail _ (List.Mem.tail _ (List.Mem.tail _ (List.Mem.tail _ (List.Mem.tail _ hp)))) | exact List.Mem.tail _ (List.Mem.tail _ (List.Mem.tail _ (List.Mem.tail _ (List.Mem.tail _ (List.Mem.tail _ hp))))) | exact List.Mem.tail _ (List.Mem.tail _ (List.Mem.tail _ (List.Mem.tail _ (List.Mem.tail _ (List.Mem.tail _ (List.Mem.tail _ hp)))))) | exact List.Mem.tail _ (List.Mem.tail _ (List.Mem.tail _ (List.Mem.tail _ (List.Mem.tail _ (List.Mem.tail _ (List.Mem.tail _ (List.Mem.tail _ hp))))))) | (simp only [List.mem_cons] at hp ⊢; rcases hp with hp | hp <;> simp [hp]))); (case sm => intro z h1 h2 h3; first | (simp only [h1, h2, h3, if_false]; done) | (simp (config := { zetaDelta := true }) only [h1, h2, h3, if_false]; done))))
  k_steps
  all_goals (rename News _ _ _ _ => kN; exact hret _ _ _ _ (by k_asm) (kst_newsOf kN (fun p hp => hp)) ⟨rfl, rfl⟩)
end
end

section
open PySem PySem.W PyProof.Rows PySem.Calls
theorem kwOpsW : True := by
  k_with_none
  w_top off
  trivial
theorem kwOpsW_1 : True := by
  k_with_none
  k_with "cell_enter" => ((refine' enterM ?k1 ?k2 ?k3 ?k4 ?k5 ?kA ?kF ?kK ?k6 ?k7 ?k8 ?k9 ?kB ?_ ?c2 ?c3 ?c4 ?c5; (case kA => exact rfl); (case kF => exact rfl); (case kK => assumption); (case k1 => k_asm); (case k2 => k_asm); (case k3 => k_asm); (case k4 => k_asm); (case k5 => k_asm); (case k6 => k_is); (case k7 => k_is); (case k8 => first | ktr_room | k_room); (case k9 => first | exact BindsTo.of_eq rfl | exact binds_K (by k_in) rfl (by k_is) rfl rfl rfl); (case c5 => decide); (case kB => exact locs rfl); (case c2 => exact rfl); (case c3 => exact rfl); (case c4 => exact rfl); k_whole; intro mqzz gqzz Lqzz hqzz tqzz FGqzz Fqzz Nqzz Bqzz Xqzz Tqzz qkqzz ekqzz))
  k_with "storeName" => ((k_dflt (refine' storeL ?F ?N ?a ?b ?_; (case F => k_asm); (case N => k_asm); (case a => rfl); (case b => rfl); k_whole; intro mszz hszz tszz Fszz Nszz; (try k_sweep))))
  k_with "leaveF" => ((k_dflt (first | (refine' leaveF_ret ?k1 ?k2 ?_; (case k1 => k_asm); (case k2 => k_asm); k_whole) | (refine' leaveF_next ?k1 ?k2 ?_; (case k1 => k_asm); (case k2 => k_asm); k_whole)); intro kFlzz kNlzz; ground_anew kFlzz))
  k_with "ktr_room" => (((try dsimp only [depth_under_make, depth_under_kw, depth_in1, depth_deeper]); first | exact room1 (by assumption) (by decide) | exact room2 (by assumption) (by decide) | exact room0 (by assumption) | exact room3 (by assumption) (by decide) | exact room4 (by assumption) (by decide)))
  k_with "ktr_units" => (((try dsimp only [units_under_make, units_in1, units_deeper, Around.mark_units]); first | exact room1 (by assumption) (by decide) | exact room2 (by assumption) (by decide) | exact room0 (by assumption) | exact room3 (by assumption) (by decide) | exact room4 (by assumption) (by decide)))
  k_with "k_ne" => ((refine neN ?_; (try dsimp only); first | assumption | exact Ne.symm (by assumption) | exact Nat.ne_of_gt (by assumption) | exact Nat.ne_of_lt (by assumption) | exact neP1 (by assumption) | exact neP2 (by assumption) | exact neP3 (by assumption) | exact neP4 (by assumption) | exact neP5 (by assumption)))
  k_with "k_mem" => (first | assumption | exact List.Mem.head _ | (refine' List.Mem.tail _ ?_; k_mem))
  k_with "k_all" => (first | assumption | (refine all1 ?_ (by assumption); k_ne) | (refine all2 ?_ ?_ (by assumption) <;> k_ne) | (refine all3 ?_ ?_ ?_ (by assumption) <;> k_ne))
  k_with "execs cons" => (((with_reducible show wpAny _ _ _ _ _ (PySem.Shared.mk _ _ _ (_ + 1) _)); refine genToks ?_; intro tk9zz))
  k_with "eval Constant int" => ((refine constG ?_; intro t9zz tk9zz))
  k_with "ke_room" => (ktr_units)
  trivial
theorem opsW_words : True := by
  k_with_none
  k_with "cell_enter" => ((refine' enterM ?k1 ?k2 ?k3 ?k4 ?k5 ?kA ?kF ?kK ?k6 ?k7 ?k8 ?k9 ?kB ?_ ?c2 ?c3 ?c4 ?c5; (case kA => exact rfl); (case kF => exact rfl); (case kK => assumption); (case k1 => k_asm); (case k2 => k_asm); (case k3 => k_asm); (case k4 => k_asm); (case k5 => k_asm); (case k6 => k_is); (case k7 => k_is); (case k8 => first | ktr_room | k_room); (case k9 => first | exact BindsTo.of_eq rfl | exact binds_K (by k_in) rfl (by k_is) rfl rfl rfl); (case c5 => decide); (case kB => exact locs rfl); (case c2 => exact rfl); (case c3 => exact rfl); (case c4 => exact rfl); k_whole; intro mqzz gqzz Lqzz hqzz tqzz FGqzz Fqzz Nqzz Bqzz Xqzz Tqzz qkqzz ekqzz))
  k_with "storeName" => ((k_dflt (refine' storeL ?F ?N ?a ?b ?_; (case F => k_asm); (case N => k_asm); (case a => rfl); (case b => rfl); k_whole; intro mszz hszz tszz Fszz Nszz; (try k_sweep))))
  k_with "leaveF" => ((k_dflt (first | (refine' leaveF_ret ?k1 ?k2 ?_; (case k1 => k_asm); (case k2 => k_asm); k_whole) | (refine' leaveF_next ?k1 ?k2 ?_; (case k1 => k_asm); (case k2 => k_asm); k_whole)); intro kFlzz kNlzz; ground_anew kFlzz))
  k_with "ktr_room" => (((try dsimp only [depth_under_make, depth_under_kw, depth_in1, depth_deeper]); first | exact room1 (by assumption) (by decide) | exact room2 (by assumption) (by decide) | exact room0 (by assumption) | exact room3 (by assumption) (by decide) | exact room4 (by assumption) (by decide)))
  k_with "ktr_units" => (((try dsimp only [units_under_make, units_in1, units_deeper, Around.mark_units]); first | exact room1 (by assumption) (by decide) | exact room2 (by assumption) (by decide) | exact room0 (by assumption) | exact room3 (by assumption) (by decide) | exact room4 (by assumption) (by decide)))
  k_with "k_ne" => ((refine neN ?_; (try dsimp only); first | assumption | exact Ne.symm (by assumption) | exact Nat.ne_of_gt (by assumption) | exact Nat.ne_of_lt (by assumption) | exact neP1 (by assumption) | exact neP2 (by assumption) | exact neP3 (by assumption) | exact neP4 (by assumption) | exact neP5 (by assumption)))
  k_with "k_mem" => (first | assumption | exact List.Mem.head _ | (refine' List.Mem.tail _ ?_; k_mem))
  k_with "k_all" => (first | assumption | (refine all1 ?_ (by assumption); k_ne) | (refine all2 ?_ ?_ (by assumption) <;> k_ne) | (refine all3 ?_ ?_ ?_ (by assumption) <;> k_ne))
  k_with "execs cons" => (((with_reducible show wpAny _ _ _ _ _ (PySem.Shared.mk _ _ _ (_ + 1) _)); refine genToks ?_; intro tk9zz))
  k_with "eval Constant int" => ((refine constG ?_; intro t9zz tk9zz))
  k_with "ke_room" => (ktr_units)
  k_with "call ref" => (k_here; (try dsimp only [List.nil_append, List.cons_append]); (with_reducible show wpAny _ _ (call (Value.ref 415) [Value.ref _]) _ _ _); k_dflt (refine wpAny_call ?_; (refine' code_def ?k1 ?k2 ?k3 ?k4 ?k5 ?kA ?kF ?kK ?k6 ?k7 ?k8 ?k9 ?kB ?_ ?c2 ?c3 ?c4 ?c5; (case kA => exact rfl); (case kF => exact rfl); (case kK => exact rfl); (case k1 => k_asm); (case k2 => k_asm); (case k3 => k_asm); (case k4 => k_asm); (case k5 => k_asm); (case k6 => k_is); (case k7 => k_is); (case k8 => ktr_room); (case k9 => exact BindsTo.of_eq rfl); (case c5 => decide); (case kB => exact locs rfl); (case c2 => exact rfl); (case c3 => exact rfl); (case c4 => exact rfl); k_whole; intro g' L' h' FG' F' N' B' X' T'; (try dsimp only); (try k_lift B'); (try k_fold))))
  k_with "call ref" => (k_here; (try dsimp only [List.nil_append, List.cons_append]); (with_reducible show wpAny _ _ (call (Value.ref 422) [Value.ref _]) _ _ _); k_dflt (refine wpAny_call ?_; (refine' code_def ?k1 ?k2 ?k3 ?k4 ?k5 ?kA ?kF ?kK ?k6 ?k7 ?k8 ?k9 ?kB ?_ ?c2 ?c3 ?c4 ?c5; (case kA => exact rfl); (case kF => exact rfl); (case kK => exact rfl); (case k1 => k_asm); (case k2 => k_asm); (case k3 => k_asm); (case k4 => k_asm); (case k5 => k_asm); (case k6 => k_is); (case k7 => k_is); (case k8 => ktr_room); (case k9 => exact BindsTo.of_eq rfl); (case c5 => decide); (case kB => exact locs rfl); (case c2 => exact rfl); (case c3 => exact rfl); (case c4 => exact rfl); k_whole; intro g' L' h' FG' F' N' B' X' T'; (try dsimp only); (try k_lift B'); (try k_fold))))
  k_with "call ref" => (k_here; (try dsimp only [List.nil_append, List.cons_append]); (with_reducible show wpAny _ _ (call (Value.ref 401) [Value.ref _]) _ _ _); k_dflt (refine' useV (g := fun t => Value.int _ t) (pop_ok ?m1 ?m2 ?U ?hv ?hs) ?B ?F ?X ?N ?T ?hk ?hd ?hu ?_; (case B => k_asm); (case F => k_asm); (case X => k_asm); (case N => k_asm); (case T => k_asm); (case m1 => k_mem); (case m2 => k_mem); (case hk => exact rfl); (case hd => ktr_room); (case hu => ktr_units); (case U => k_upd); (case hv => first | assumption | exact IntsAre.nil | (apply ints_snoc; first | assumption | exact IntsAre.nil | (apply ints_snoc; first | assumption | exact IntsAre.nil))); (case hs => ((try simp only [List.length_append, List.length_cons, List.length_nil]); omega)); k_whole; intro t' h' tk' F' N'; (try k_sweep)))
  k_with "call ref" => (k_here; (try dsimp only [List.nil_append, List.cons_append]); (with_reducible show wpAny _ _ (call (Value.ref 394) [Value.ref _, Value.int _ _]) _ _ _); k_dflt (refine' useN (push_ok ?m1 ?m2 ?U ?hv ?hm ?hs) ?B ?F ?X ?N ?T ?hk ?hd ?hu ?_; (case B => k_asm); (case F => k_asm); (case X => k_asm); (case N => k_asm); (case T => k_asm); (case m1 => k_mem); (case m2 => k_mem); (case hk => exact rfl); (case hd => ktr_room); (case hu => ktr_units); (case U => k_upd); (case hv => first | assumption | exact IntsAre.nil | (apply ints_snoc; first | assumption | exact IntsAre.nil | (apply ints_snoc; first | assumption | exact IntsAre.nil))); (case hm => decide); (case hs => ((try simp only [List.length_append, List.length_cons, List.length_nil]); omega)); k_whole; intro h' tk' F' N'; (try k_sweep)))
  k_with "call ref" => (k_here; (try dsimp only [List.nil_append, List.cons_append]); (with_reducible show wpAny _ _ (call (Value.ref 408) [Value.ref _, Value.int _ _]) _ _ _); k_dflt (refine' useV (g := fun t => Value.int _ t) (peek_ok ?m1 ?m2 ?m3 ?hv ?hs ?h1 ?h2) ?B ?F ?X ?N ?T ?hk ?hd ?hu ?_; (case B => k_asm); (case F => k_asm); (case X => k_asm); (case N => k_asm); (case T => k_asm); (case m1 => k_mem); (case m2 => k_mem); (case hk => exact rfl); (case hd => ktr_room); (case hu => ktr_units); (case m3 => k_mem); (case hv => first | assumption | exact IntsAre.nil | (apply ints_snoc; first | assumption | exact IntsAre.nil | (apply ints_snoc; first | assumption | exact IntsAre.nil))); (case hs => ((try simp only [List.length_append, List.length_cons, List.length_nil]); omega)); (case h1 => ((try simp only [List.length_append, List.length_cons, List.length_nil]); omega)); (case h2 => ((try simp only [List.length_append, List.length_cons, List.length_nil]); omega)); k_whole; intro t' h' tk' F' N'; (try k_sweep)))
  k_with "call ref" => (k_here; (try dsimp only [List.nil_append, List.cons_append]); (with_reducible show wpAny _ _ (call (Value.ref 401) [Value.ref _]) _ _ _); k_dflt (refine' useE (pop_bad ?m1 ?m2 ?m3 IntsAre.nil) ?B ?F ?X ?N ?T ?hk ?hd ?hu ?_; (case B => k_asm); (case F => k_asm); (case X => k_asm); (case N => k_asm); (case T => k_asm); (case m1 => k_mem); (case m2 => k_mem); (case m3 => k_mem); (case hk => exact rfl); (case hd => ktr_room); (case hu => ktr_units); k_whole; intro G' e' t' x' h' tk' F' R' U'))
  k_with "call ref" => (k_here; (try dsimp only [List.nil_append, List.cons_append]); (with_reducible show wpAny _ _ (call (Value.ref 394) [Value.ref _, Value.int _ _]) _ _ _); k_dflt (refine' useE (push_bad ?m1 ?m2 ?m3 ?hv ?hm ?hs ?h2) ?B ?F ?X ?N ?T ?hk ?hd ?hu ?_; (case B => k_asm); (case F => k_asm); (case X => k_asm); (case N => k_asm); (case T => k_asm); (case m1 => k_mem); (case m2 => k_mem); (case m3 => k_mem); (case hv => first | assumption | exact IntsAre.nil | (apply ints_snoc; assumption)); (case hm => decide); (case hs => ((try simp only [List.length_append, List.length_cons, List.length_nil]); omega)); (case h2 => ((try simp only [List.length_append, List.length_cons, List.length_nil]); omega)); (case hk => exact rfl); (case hd => ktr_room); (case hu => ktr_units); k_whole; intro G' e' t' x' h' tk' F' R' U'))
  k_with "call ref" => (k_here; (try dsimp only [List.nil_append, List.cons_append]); (with_reducible show wpAny _ _ (call (Value.ref 408) [Value.ref _, Value.int _ _]) _ _ _); k_dflt (refine' useE (peek_bad ?m1 ?m2 ?m3 ?hv ?hs ?h1 ?h2) ?B ?F ?X ?N ?T ?hk ?hd ?hu ?_; (case B => k_asm); (case F => k_asm); (case X => k_asm); (case N => k_asm); (case T => k_asm); (case m1 => k_mem); (case m2 => k_mem); (case m3 => k_mem); (case hv => first | assumption | exact IntsAre.nil | (apply ints_snoc; assumption)); (case hs => ((try simp only [List.length_append, List.length_cons, List.length_nil]); omega)); (case h1 => ((try simp only [List.length_append, List.length_cons, List.length_nil]); omega)); (case h2 => omega); (case hk => exact rfl); (case hd => ktr_room); (case hu => ktr_units); k_whole; intro G' e' t' x' h' tk' F' R' U'))
  k_with "call ref" => (k_here; (try dsimp only [List.nil_append, List.cons_append]); (with_reducible show wpAny _ _ (call (Value.ref 74) [Value.int _ _]) _ _ _); k_dflt (refine' useC (wrap32_c _ _ _) ?B ?F ?X ?N ?T ?hk ?hp ?hd ?hu ?_; (case B => k_asm); (case F => k_asm); (case X => k_asm); (case N => k_asm); (case T => k_asm); (case hk => exact rfl); (case hp => trivial); (case hd => ktr_room); (case hu => ktr_units); k_whole; intro t' h' tk' F' N'; (try k_sweep)))
  k_with "call ref" => (k_here; (try dsimp only [List.nil_append, List.cons_append]); (with_reducible show wpAny _ _ (call (Value.ref 81) [Value.int _ _]) _ _ _); k_dflt (refine' useC (floor6_c _ _ _) ?B ?F ?X ?N ?T ?hk ?hp ?hd ?hu ?_; (case B => k_asm); (case F => k_asm); (case X => k_asm); (case N => k_asm); (case T => k_asm); (case hk => exact rfl); (case hp => omega); (case hd => ktr_room); (case hu => ktr_units); k_whole; intro t' h' tk' F' N'; (try k_sweep)))
  k_with "call ref" => (k_here; (try dsimp only [List.nil_append, List.cons_append]); (with_reducible show wpAny _ _ (call (Value.ref 88) [Value.int _ _]) _ _ _); k_dflt (refine' useC (ceiling6_c _ _ _) ?B ?F ?X ?N ?T ?hk ?hp ?hd ?hu ?_; (case B => k_asm); (case F => k_asm); (case X => k_asm); (case N => k_asm); (case T => k_asm); (case hk => exact rfl); (case hp => omega); (case hd => ktr_room); (case hu => ktr_units); k_whole; intro t' h' tk' F' N'; (try k_sweep)))
  k_with "call ref" => (k_here; (try dsimp only [List.nil_append, List.cons_append]); (with_reducible show wpAny _ _ (call (Value.ref 198) [Value.int _ _, Value.int _ _, Value.int _ _]) _ _ _); k_dflt (refine' useC (compared_c _ _ _ _ _ _ _) ?B ?F ?X ?N ?T ?hk ?hp ?hd ?hu ?_; (case B => k_asm); (case F => k_asm); (case X => k_asm); (case N => k_asm); (case T => k_asm); (case hk => exact rfl); (case hp => trivial); (case hd => ktr_room); (case hu => ktr_units); k_whole; intro t' h' tk' F' N'; (try k_sweep)))
  k_with "call ref" => (k_here; (try dsimp only [List.nil_append, List.cons_append]); (with_reducible show wpAny _ _ (call (Value.ref 226) [Value.int _ _, Value.int _ _, Value.int _ _]) _ _ _); k_dflt (refine' useV (g := fun t => Value.int _ t) (two_c _ _ _ _ _ _ _ ?h1 ?h2 ?h3) ?B ?F ?X ?N ?T ?hk ?hd ?hu ?_; (case B => k_asm); (case F => k_asm); (case X => k_asm); (case N => k_asm); (case T => k_asm); (case h1 => omega); (case h2 => omega); (case h3 => omega); (case hk => exact rfl); (case hd => ktr_room); (case hu => ktr_units); k_whole; intro t' h' tk' F' N'; (try k_sweep)))
  k_with "call ref" => (k_here; (try dsimp only [List.nil_append, List.cons_append]); (with_reducible show wpAny _ _ (call (Value.ref 226) [Value.int 98 _, Value.int _ _, Value.int 0 _]) _ _ _); k_dflt (refine' useE (two_bad _ _ _ _ _) ?B ?F ?X ?N ?T ?hk ?hd ?hu ?_; (case B => k_asm); (case F => k_asm); (case X => k_asm); (case N => k_asm); (case T => k_asm); (case hk => exact rfl); (case hd => ktr_room); (case hu => ktr_units); k_whole; intro G' e' t' x' h' tk' F' R' U'))
  k_with "leaving ref" => (k_here; (rename RaisedS _ _ _ _ _ _ _ _ _ => rs); k_dflt (refine' leave_onX ?K rfl ?F rs ?U ?_; (case K => k_asm); (case F => k_asm); (case U => k_asm); k_whole; intro h' R' U'))
  k_with "eval Call Attribute" => first
    | ((with_reducible show wpAny _ _ (eval (Expr.Call (Expr.Attribute (Expr.Attribute _ _ _) (Str.ofString "pop") _) [] [] _) _) _ _ _); k_dflt (refine' popE ?B ?F ?X ?N ?T ?hm ?mW ?mWD ?mST ?mSD ?U ?hv ?hs ?hk ?hx ?hd ?hu ?he ?_; (case B => k_asm); (case F => k_asm); (case X => k_asm); (case N => k_asm); (case T => k_asm); (case hm => exact rfl); (case mW => k_mem); (case mWD => k_mem); (case mST => k_mem); (case mSD => k_mem); (case U => k_upd); (case hv => first | assumption | exact IntsAre.nil | (apply ints_snoc; first | assumption | exact IntsAre.nil | (apply ints_snoc; first | assumption | exact IntsAre.nil))); (case hs => ((try simp only [List.length_append, List.length_cons, List.length_nil]); omega)); (case hk => exact rfl); (case hx => exact rfl); (case hd => ktr_room); (case hu => ktr_units); (case he => exact rfl); k_whole; intro t' h' tk' F' N'; (try k_sweep)))
    | ((with_reducible show wpAny _ _ (eval (Expr.Call (Expr.Attribute (Expr.Attribute _ _ _) (Str.ofString "pop") _) [] [] _) _) _ _ _); k_dflt (refine' popX ?B ?F ?X ?N ?T ?hm ?mW ?mWD ?mST ?mSD ?mN ?hk ?hx ?hd ?hu ?he ?_; (case B => k_asm); (case F => k_asm); (case X => k_asm); (case N => k_asm); (case T => k_asm); (case hm => exact rfl); (case mW => k_mem); (case mWD => k_mem); (case mST => k_mem); (case mSD => k_mem); (case mN => k_mem); (case hk => exact rfl); (case hx => exact rfl); (case hd => ktr_room); (case hu => ktr_units); (case he => exact rfl); k_whole; intro G' e' t' x' h' tk' F' R' U'))
    | ((with_reducible show wpAny _ _ (eval (Expr.Call (Expr.Attribute (Expr.Attribute _ _ _) (Str.ofString "push") _) [Expr.Name _ _] [] _) _) _ _ _); k_dflt (refine' pushN ?B ?F ?X ?N ?T ?hm ?mW ?mWD ?mST ?mSD ?U ?hv ?hs ?hm2 ?hx2 ?hb ?hk ?hx ?hd ?hu ?he ?_; (case B => k_asm); (case F => k_asm); (case X => k_asm); (case N => k_asm); (case T => k_asm); (case hm => exact rfl); (case mW => k_mem); (case mWD => k_mem); (case mST => k_mem); (case mSD => k_mem); (case hm2 => exact rfl); (case U => k_upd); (case hv => first | assumption | exact IntsAre.nil | (apply ints_snoc; first | assumption | exact IntsAre.nil | (apply ints_snoc; first | assumption | exact IntsAre.nil))); (case hs => ((try simp only [List.length_append, List.length_cons, List.length_nil]); omega)); (case hx2 => exact rfl); (case hb => decide); (case hk => exact rfl); (case hx => exact rfl); (case hd => ktr_room); (case hu => ktr_units); (case he => exact rfl); k_whole; intro h' tk' F' N'; (try k_sweep)))
  trivial
section
variable {w : World} {mean : ExcName → Option Value} {mg mb : Str → Option Value}
theorem ws_c (xs : List Int) (x y : Int) (hl : xs.length ≤ 6) (c : Int) (tc : Tok) (a : WA) (N : Nat) (vs : List Value) (k STO : Nat) (oS : Obj) (rest0 : List (Addr × Obj)) (hv : IntsAre vs (xs ++ [x] ++ [y])) (hc : Chain a N ((STO, oS) :: rest0)) (hs : a.sto = .ref STO) (hN : N < STO) (hr : ∀ p ∈ rest0, p.1 ≠ STO) (hd0 : DictI oS [] w) :
    OpR w mean mg mb 261 c tc a N vs k ((STO, oS) :: rest0) xs (fun rest' => ∃ oS' t, rest' = (STO, oS') :: rest0 ∧ DictI oS' [(x, .int y t)] w) := by
  intro d o l
  have hc0 := hc
  obtain ⟨c1, c2, c3, c4, r1, r2⟩ := hc
  obtain ⟨vs, ty, rfl, hv1⟩ := ints_inv hv
  obtain ⟨vs, tx, rfl, hv2⟩ := ints_inv hv1
  have hl2 := hv2.length
  have key : wdObj a = dictOf [⟨a.hs 0, .str (Str.ofString "state") (a.ts 0), a.gs⟩, ⟨a.hs 1, .str (Str.ofString "stack") (a.ts 1), .ref a.ST⟩, ⟨a.hs 2, .str (Str.ofString "zones") (a.ts 2), a.z⟩, ⟨a.hs 3, .str (Str.ofString "cvt") (a.ts 3), a.cv⟩,
  ⟨a.hs 4, .str (Str.ofString "storage") (a.ts 4), .ref STO⟩, ⟨a.hs 5, .str (Str.ofString "ppem") (a.ts 5), a.pp⟩, ⟨a.hs 6, .str (Str.ofString "point_size") (a.ts 6), a.ps⟩, ⟨a.hs 7, .str (Str.ofString "scale") (a.ts 7), a.sc⟩] 8 := by rw [← hs]
  have ld : N < d := l (N, listOf (vs ++ [Value.int x tx] ++ [Value.int y ty]).toArray k) (by simp [led])
  have ls : STO < d := l (STO, oS) (by simp [led])
  have lo : (STO == sysModules) = false := by
    have : STO ≠ 1 := by omega
    simpa [sysModules] using this
  have q1 : ∀ p ∈ rest0 ++ [(d, o)], p.1 ≠ N := fun p hp => by
    rcases List.mem_append.mp hp with q | q
    · exact r1 p (List.mem_cons_of_mem _ q)
    · rw [List.mem_singleton.mp q]; exact Nat.ne_of_gt ld
  have q2 : ∀ p ∈ rest0 ++ [(d, o)], p.1 ≠ STO := fun p hp => by
    rcases List.mem_append.mp hp with q | q
    · exact hr p q
    · rw [List.mem_singleton.mp q]; exact Nat.ne_of_gt ls
  refine CbM_mk ?_; intro dpY unY gdY cnY csY acY ccY clY ouY a0Y baY h0Y LY mY shY sgY sdY skY soY QY EY aB aF aX aN aT akY adY auY hret
  dsimp only [led, List.cons_append] at aN
  rw [key] at aN
  generalize hr9 : rest0 ++ [(d, o)] = rest9 at *
  k_dflt cell_enter
  k_with "setItem ref int" => ((k_dflt ((rename Fr _ _ _ _ => lF'); (rename News _ _ _ _ => lN'); (refine' kda_set lF' lN' ?sU hd0 (isInt_self _ _) (Nat.zero_le _) ?_); (case sU => k_updF); intro h8 o1 F8 N8 hd1; (try dsimp only at N8))))
  k_steps
  all_goals (rename News _ _ _ _ => kN; rw [← key] at kN)
  all_goals exact hret _ (led a N _ _ ((STO, _) :: rest9)) _ _ (by k_asm) (kst_newsOf kN (by intro p hp; exact List.Mem.tail _ hp)) ⟨rfl, N, _, _, (STO, _) :: rest0, hv2, ⟨c1, c2, c3, c4, (fun p hp => by rcases List.mem_cons.mp hp with q | q; rw [q]; exact Nat.ne_of_gt hN; exact r1 p (List.mem_cons_of_mem _ q)), (fun p hp => by rcases List.mem_cons.mp hp with q | q; rw [q]; exact r2 (STO, oS) List.mem_cons_self; exact r2 p (List.mem_cons_of_mem _ q))⟩, ⟨_, _, rfl, hd1⟩, by rw [← hr9]; rfl⟩
theorem rs_hit (xs : List Int) (p0 y : Int) (ty0 : Tok) (kvs : List (Int × Value)) (hl : xs.length ≤ 7) (c : Int) (tc : Tok) (a : WA) (N : Nat) (vs : List Value) (k STO : Nat) (oS : Obj) (rest0 : List (Addr × Obj)) (hv : IntsAre vs (xs ++ [p0])) (hc : Chain a N ((STO, oS) :: rest0)) (hs : a.sto = .ref STO) (hN : 1 < STO) (hd0 : DictI oS kvs w) (hval : valueAt kvs p0 = some (.int y ty0)) :
    OpR w mean mg mb 268 c tc a N vs k ((STO, oS) :: rest0) (xs ++ [y]) (fun rest' => rest' = (STO, oS) :: rest0) := by
  intro d o l
  have hc0 := hc
  obtain ⟨c1, c2, c3, c4, r1, r2⟩ := hc
  obtain ⟨vs, ty, rfl, hv1⟩ := ints_inv hv
  have hl2 := hv1.length
  have key : wdObj a = dictOf [⟨a.hs 0, .str (Str.ofString "state") (a.ts 0), a.gs⟩, ⟨a.hs 1, .str (Str.ofString "stack") (a.ts 1), .ref a.ST⟩, ⟨a.hs 2, .str (Str.ofString "zones") (a.ts 2), a.z⟩, ⟨a.hs 3, .str (Str.ofString "cvt") (a.ts 3), a.cv⟩,
  ⟨a.hs 4, .str (Str.ofString "storage") (a.ts 4), .ref STO⟩, ⟨a.hs 5, .str (Str.ofString "ppem") (a.ts 5), a.pp⟩, ⟨a.hs 6, .str (Str.ofString "point_size") (a.ts 6), a.ps⟩, ⟨a.hs 7, .str (Str.ofString "scale") (a.ts 7), a.sc⟩] 8 := by rw [← hs]
  have q0 : STO ≠ N := r1 (STO, oS) List.mem_cons_self
  have ld : N < d := l (N, listOf (vs ++ [Value.int p0 ty]).toArray k) (by simp [led])
  have lo : (STO == sysModules) = false := by
    have : STO ≠ 1 := by omega
    simpa [sysModules] using this
  have q1 : ∀ p ∈ rest0 ++ [(d, o)], p.1 ≠ N := fun p hp => by
    rcases List.mem_append.mp hp with q | q
    · exact r1 p (List.mem_cons_of_mem _ q)
    · rw [List.mem_singleton.mp q]; exact Nat.ne_of_gt ld
  refine CbM_mk ?_; intro dpY unY gdY cnY csY acY ccY clY ouY a0Y baY h0Y LY mY shY sgY sdY skY soY QY EY aB aF aX aN aT akY adY auY hret
  dsimp only [led, List.cons_append] at aN
  rw [key] at aN
  generalize hr9 : rest0 ++ [(d, o)] = rest9 at *
  k_dflt cell_enter
  k_with "getMethod ref" => ((with_reducible show wpAny _ _ (getMethod (Value.ref STO) (Str.ofString "get") _) _ _ _); (k_dflt (refine kdg_method (knd := PySem.intKind _ _) (by k_asm) (by k_mem) hd0 ?_)))
  k_with "call builtin:dict.get" => ((k_dflt (refine kdg_get2 (knd := PySem.intKind _ _) (by k_asm) (by k_mem) hd0 lo (isInt_self _ _) (some (Value.int y ty0)) hval ?_; (try dsimp only [Option.getD]))))
  k_steps
  all_goals (rename News _ _ _ _ => kN; rw [← key] at kN)
  all_goals exact hret _ (led a N _ _ ((STO, _) :: rest9)) _ _ (by k_asm) (kst_newsOf kN (by intro p hp; exact hp)) ⟨rfl, N, _, _, (STO, oS) :: rest0, (ints_snoc hv1 _ _), hc0, rfl, by rw [← hr9]; rfl⟩
theorem rs_miss (xs : List Int) (p0 y : Int) (ty0 : Tok) (kvs : List (Int × Value)) (hl : xs.length ≤ 7) (c : Int) (tc : Tok) (a : WA) (N : Nat) (vs : List Value) (k STO : Nat) (oS : Obj) (rest0 : List (Addr × Obj)) (hv : IntsAre vs (xs ++ [p0])) (hc : Chain a N ((STO, oS) :: rest0)) (hs : a.sto = .ref STO) (hN : 1 < STO) (hd0 : DictI oS kvs w) (hval : valueAt kvs p0 = none) :
    OpR w mean mg mb 268 c tc a N vs k ((STO, oS) :: rest0) (xs ++ [0]) (fun rest' => rest' = (STO, oS) :: rest0) := by
  intro d o l
  have hc0 := hc
  obtain ⟨c1, c2, c3, c4, r1, r2⟩ := hc
  obtain ⟨vs, ty, rfl, hv1⟩ := ints_inv hv
  have hl2 := hv1.length
  have key : wdObj a = dictOf [⟨a.hs 0, .str (Str.ofString "state") (a.ts 0), a.gs⟩, ⟨a.hs 1, .str (Str.ofString "stack") (a.ts 1), .ref a.ST⟩, ⟨a.hs 2, .str (Str.ofString "zones") (a.ts 2), a.z⟩, ⟨a.hs 3, .str (Str.ofString "cvt") (a.ts 3), a.cv⟩,
  ⟨a.hs 4, .str (Str.ofString "storage") (a.ts 4), .ref STO⟩, ⟨a.hs 5, .str (Str.ofString "ppem") (a.ts 5), a.pp⟩, ⟨a.hs 6, .str (Str.ofString "point_size") (a.ts 6), a.ps⟩, ⟨a.hs 7, .str (Str.ofString "scale") (a.ts 7), a.sc⟩] 8 := by rw [← hs]
  have q0 : STO ≠ N := r1 (STO, oS) List.mem_cons_self
  have ld : N < d := l (N, listOf (vs ++ [Value.int p0 ty]).toArray k) (by simp [led])
  have lo : (STO == sysModules) = false := by
    have : STO ≠ 1 := by omega
    simpa [sysModules] using this
  have q1 : ∀ p ∈ rest0 ++ [(d, o)], p.1 ≠ N := fun p hp => by
    rcases List.mem_append.mp hp with q | q
    · exact r1 p (List.mem_cons_of_mem _ q)
    · rw [List.mem_singleton.mp q]; exact Nat.ne_of_gt ld
  refine CbM_mk ?_; intro dpY unY gdY cnY csY acY ccY clY ouY a0Y baY h0Y LY mY shY sgY sdY skY soY QY EY aB aF aX aN aT akY adY auY hret
  dsimp only [led, List.cons_append] at aN
  rw [key] at aN
  generalize hr9 : rest0 ++ [(d, o)] = rest9 at *
  k_dflt cell_enter
  k_with "getMethod ref" => ((with_reducible show wpAny _ _ (getMethod (Value.ref STO) (Str.ofString "get") _) _ _ _); (k_dflt (refine kdg_method (knd := PySem.intKind _ _) (by k_asm) (by k_mem) hd0 ?_)))
  k_with "call builtin:dict.get" => ((k_dflt (refine kdg_get2 (knd := PySem.intKind _ _) (by k_asm) (by k_mem) hd0 lo (isInt_self _ _) (none) hval ?_; (try dsimp only [Option.getD]))))
  k_steps
  all_goals (rename News _ _ _ _ => kN; rw [← key] at kN)
  all_goals exact hret _ (led a N _ _ ((STO, _) :: rest9)) _ _ (by k_asm) (kst_newsOf kN (by intro p hp; exact hp)) ⟨rfl, N, _, _, (STO, oS) :: rest0, (ints_snoc hv1 _ _), hc0, rfl, by rw [← hr9]; rfl⟩
end
end

section
open PySem PySem.W PyProof.Rows PySem.Calls
theorem kwOpsD1 : True := by
  k_with_none
  w_top off
  trivial
theorem kwOpsD1_1 : True := by
  k_with_none
  k_with "cell_enter" => ((refine' enterM ?k1 ?k2 ?k3 ?k4 ?k5 ?kA ?kF ?kK ?k6 ?k7 ?k8 ?k9 ?kB ?_ ?c2 ?c3 ?c4 ?c5; (case kA => exact rfl); (case kF => exact rfl); (case kK => assumption); (case k1 => k_asm); (case k2 => k_asm); (case k3 => k_asm); (case k4 => k_asm); (case k5 => k_asm); (case k6 => k_is); (case k7 => k_is); (case k8 => first | ktr_room | k_room); (case k9 => first | exact BindsTo.of_eq rfl | exact binds_K (by k_in) rfl (by k_is) rfl rfl rfl); (case c5 => decide); (case kB => exact locs rfl); (case c2 => exact rfl); (case c3 => exact rfl); (case c4 => exact rfl); k_whole; intro mqzz gqzz Lqzz hqzz tqzz FGqzz Fqzz Nqzz Bqzz Xqzz Tqzz qkqzz ekqzz))
  k_with "storeName" => ((k_dflt (refine' storeL ?F ?N ?a ?b ?_; (case F => k_asm); (case N => k_asm); (case a => rfl); (case b => rfl); k_whole; intro mszz hszz tszz Fszz Nszz; (try k_sweep))))
  k_with "leaveF" => ((k_dflt (first | (refine' leaveF_ret ?k1 ?k2 ?_; (case k1 => k_asm); (case k2 => k_asm); k_whole) | (refine' leaveF_next ?k1 ?k2 ?_; (case k1 => k_asm); (case k2 => k_asm); k_whole)); intro kFlzz kNlzz; ground_anew kFlzz))
  k_with "ktr_room" => (((try dsimp only [depth_under_make, depth_under_kw, depth_in1, depth_deeper]); first | exact room1 (by assumption) (by decide) | exact room2 (by assumption) (by decide) | exact room0 (by assumption) | exact room3 (by assumption) (by decide) | exact room4 (by assumption) (by decide)))
  k_with "ktr_units" => (((try dsimp only [units_under_make, units_in1, units_deeper, Around.mark_units]); first | exact room1 (by assumption) (by decide) | exact room2 (by assumption) (by decide) | exact room0 (by assumption) | exact room3 (by assumption) (by decide) | exact room4 (by assumption) (by decide)))
  k_with "k_ne" => ((refine neN ?_; (try dsimp only); first | assumption | exact Ne.symm (by assumption) | exact Nat.ne_of_gt (by assumption) | exact Nat.ne_of_lt (by assumption) | exact neP1 (by assumption) | exact neP2 (by assumption) | exact neP3 (by assumption) | exact neP4 (by assumption) | exact neP5 (by assumption)))
  k_with "k_mem" => (first | assumption | exact List.Mem.head _ | (refine' List.Mem.tail _ ?_; k_mem))
  k_with "k_all" => (first | assumption | (refine all1 ?_ (by assumption); k_ne) | (refine all2 ?_ ?_ (by assumption) <;> k_ne) | (refine all3 ?_ ?_ ?_ (by assumption) <;> k_ne))
  k_with "execs cons" => (((with_reducible show wpAny _ _ _ _ _ (PySem.Shared.mk _ _ _ (_ + 1) _)); refine genToks ?_; intro tk9zz))
  k_with "eval Constant int" => ((refine constG ?_; intro t9zz tk9zz))
  k_with "ke_room" => (ktr_units)
  k_with "k_room" => (((try simp only [depth_under_make, depth_under_kw, depth_in1]); ktr_room))
  trivial
noncomputable def deltaS (p arg base : Int) : Int := if p ≠ Int.fmod (Int.fdiv arg 16) 16 + base + 9 then 0 else ((if Int.fmod arg 16 - 8 ≥ 0 then Int.fmod arg 16 - 8 + 1 else Int.fmod arg 16 - 8) * 8)
section
variable {p arg base : Int}
theorem de1 (h : p ≠ (arg.fdiv 16).fmod 16 + base + 9) : 0 = deltaS p arg base := by rw [deltaS, if_pos h]
theorem de2 (h : p = (arg.fdiv 16).fmod 16 + base + 9) (h2 : 0 ≤ arg.fmod 16 - 8) : (arg.fmod 16 - 8 + 1) * 2 ^ (6 - 3 : Int).toNat = deltaS p arg base := by
  rw [deltaS, if_neg (fun e => e h), if_pos h2]; rfl
theorem de3 (h : p = (arg.fdiv 16).fmod 16 + base + 9) (h2 : ¬ 0 ≤ arg.fmod 16 - 8) : (arg.fmod 16 - 8) * 2 ^ (6 - 3 : Int).toNat = deltaS p arg base := by
  rw [deltaS, if_neg (fun e => e h), if_neg h2]; rfl
end
theorem opsD1_words : True := by
  k_with_none
  k_with "cell_enter" => ((refine' enterM ?k1 ?k2 ?k3 ?k4 ?k5 ?kA ?kF ?kK ?k6 ?k7 ?k8 ?k9 ?kB ?_ ?c2 ?c3 ?c4 ?c5; (case kA => exact rfl); (case kF => exact rfl); (case kK => assumption); (case k1 => k_asm); (case k2 => k_asm); (case k3 => k_asm); (case k4 => k_asm); (case k5 => k_asm); (case k6 => k_is); (case k7 => k_is); (case k8 => first | ktr_room | k_room); (case k9 => first | exact BindsTo.of_eq rfl | exact binds_K (by k_in) rfl (by k_is) rfl rfl rfl); (case c5 => decide); (case kB => exact locs rfl); (case c2 => exact rfl); (case c3 => exact rfl); (case c4 => exact rfl); k_whole; intro mqzz gqzz Lqzz hqzz tqzz FGqzz Fqzz Nqzz Bqzz Xqzz Tqzz qkqzz ekqzz))
  k_with "storeName" => ((k_dflt (refine' storeL ?F ?N ?a ?b ?_; (case F => k_asm); (case N => k_asm); (case a => rfl); (case b => rfl); k_whole; intro mszz hszz tszz Fszz Nszz; (try k_sweep))))
  k_with "leaveF" => ((k_dflt (first | (refine' leaveF_ret ?k1 ?k2 ?_; (case k1 => k_asm); (case k2 => k_asm); k_whole) | (refine' leaveF_next ?k1 ?k2 ?_; (case k1 => k_asm); (case k2 => k_asm); k_whole)); intro kFlzz kNlzz; ground_anew kFlzz))
  k_with "ktr_room" => (((try dsimp only [depth_under_make, depth_under_kw, depth_in1, depth_deeper]); first | exact room1 (by assumption) (by decide) | exact room2 (by assumption) (by decide) | exact room0 (by assumption) | exact room3 (by assumption) (by decide) | exact room4 (by assumption) (by decide)))
  k_with "ktr_units" => (((try dsimp only [units_under_make, units_in1, units_deeper, Around.mark_units]); first | exact room1 (by assumption) (by decide) | exact room2 (by assumption) (by decide) | exact room0 (by assumption) | exact room3 (by assumption) (by decide) | exact room4 (by assumption) (by decide)))
  k_with "k_ne" => ((refine neN ?_; (try dsimp only); first | assumption | exact Ne.symm (by assumption) | exact Nat.ne_of_gt (by assumption) | exact Nat.ne_of_lt (by assumption) | exact neP1 (by assumption) | exact neP2 (by assumption) | exact neP3 (by assumption) | exact neP4 (by assumption) | exact neP5 (by assumption)))
  k_with "k_mem" => (first | assumption | exact List.Mem.head _ | (refine' List.Mem.tail _ ?_; k_mem))
  k_with "k_all" => (first | assumption | (refine all1 ?_ (by assumption); k_ne) | (refine all2 ?_ ?_ (by assumption) <;> k_ne) | (refine all3 ?_ ?_ ?_ (by assumption) <;> k_ne))
  k_with "execs cons" => (((with_reducible show wpAny _ _ _ _ _ (PySem.Shared.mk _ _ _ (_ + 1) _)); refine genToks ?_; intro tk9zz))
  k_with "eval Constant int" => ((refine constG ?_; intro t9zz tk9zz))
  k_with "ke_room" => (ktr_units)
  k_with "k_room" => (((try simp only [depth_under_make, depth_under_kw, depth_in1]); ktr_room))
  k_with "call ref" => (k_here; (try dsimp only [List.nil_append, List.cons_append]); (with_reducible show wpAny _ _ (call (Value.ref 415) [Value.ref _]) _ _ _); k_dflt (refine wpAny_call ?_; (refine' code_def ?k1 ?k2 ?k3 ?k4 ?k5 ?kA ?kF ?kK ?k6 ?k7 ?k8 ?k9 ?kB ?_ ?c2 ?c3 ?c4 ?c5; (case kA => exact rfl); (case kF => exact rfl); (case kK => exact rfl); (case k1 => k_asm); (case k2 => k_asm); (case k3 => k_asm); (case k4 => k_asm); (case k5 => k_asm); (case k6 => k_is); (case k7 => k_is); (case k8 => ktr_room); (case k9 => exact BindsTo.of_eq rfl); (case c5 => decide); (case kB => exact locs rfl); (case c2 => exact rfl); (case c3 => exact rfl); (case c4 => exact rfl); k_whole; intro g' L' h' FG' F' N' B' X' T'; (try dsimp only); (try k_lift B'); (try k_fold))))
  k_with "call ref" => (k_here; (try dsimp only [List.nil_append, List.cons_append]); (with_reducible show wpAny _ _ (call (Value.ref 422) [Value.ref _]) _ _ _); k_dflt (refine wpAny_call ?_; (refine' code_def ?k1 ?k2 ?k3 ?k4 ?k5 ?kA ?kF ?kK ?k6 ?k7 ?k8 ?k9 ?kB ?_ ?c2 ?c3 ?c4 ?c5; (case kA => exact rfl); (case kF => exact rfl); (case kK => exact rfl); (case k1 => k_asm); (case k2 => k_asm); (case k3 => k_asm); (case k4 => k_asm); (case k5 => k_asm); (case k6 => k_is); (case k7 => k_is); (case k8 => ktr_room); (case k9 => exact BindsTo.of_eq rfl); (case c5 => decide); (case kB => exact locs rfl); (case c2 => exact rfl); (case c3 => exact rfl); (case c4 => exact rfl); k_whole; intro g' L' h' FG' F' N' B' X' T'; (try dsimp only); (try k_lift B'); (try k_fold))))
  k_with "call ref" => (k_here; (try dsimp only [List.nil_append, List.cons_append]); (with_reducible show wpAny _ _ (call (Value.ref 401) [Value.ref _]) _ _ _); k_dflt (refine' useV (g := fun t => Value.int _ t) (pop_ok ?m1 ?m2 ?U ?hv ?hs) ?B ?F ?X ?N ?T ?hk ?hd ?hu ?_; (case B => k_asm); (case F => k_asm); (case X => k_asm); (case N => k_asm); (case T => k_asm); (case m1 => k_mem); (case m2 => k_mem); (case hk => exact rfl); (case hd => ktr_room); (case hu => ktr_units); (case U => k_upd); (case hv => first | assumption | exact IntsAre.nil | (apply ints_snoc; first | assumption | exact IntsAre.nil | (apply ints_snoc; first | assumption | exact IntsAre.nil))); (case hs => ((try simp only [List.length_append, List.length_cons, List.length_nil]); omega)); k_whole; intro t' h' tk' F' N'; (try k_sweep)))
  k_with "call ref" => (k_here; (try dsimp only [List.nil_append, List.cons_append]); (with_reducible show wpAny _ _ (call (Value.ref 394) [Value.ref _, Value.int _ _]) _ _ _); k_dflt (refine' useN (push_ok ?m1 ?m2 ?U ?hv ?hm ?hs) ?B ?F ?X ?N ?T ?hk ?hd ?hu ?_; (case B => k_asm); (case F => k_asm); (case X => k_asm); (case N => k_asm); (case T => k_asm); (case m1 => k_mem); (case m2 => k_mem); (case hk => exact rfl); (case hd => ktr_room); (case hu => ktr_units); (case U => k_upd); (case hv => first | assumption | exact IntsAre.nil | (apply ints_snoc; first | assumption | exact IntsAre.nil | (apply ints_snoc; first | assumption | exact IntsAre.nil))); (case hm => decide); (case hs => ((try simp only [List.length_append, List.length_cons, List.length_nil]); omega)); k_whole; intro h' tk' F' N'; (try k_sweep)))
  k_with "call ref" => (k_here; (try dsimp only [List.nil_append, List.cons_append]); (with_reducible show wpAny _ _ (call (Value.ref 408) [Value.ref _, Value.int _ _]) _ _ _); k_dflt (refine' useV (g := fun t => Value.int _ t) (peek_ok ?m1 ?m2 ?m3 ?hv ?hs ?h1 ?h2) ?B ?F ?X ?N ?T ?hk ?hd ?hu ?_; (case B => k_asm); (case F => k_asm); (case X => k_asm); (case N => k_asm); (case T => k_asm); (case m1 => k_mem); (case m2 => k_mem); (case hk => exact rfl); (case hd => ktr_room); (case hu => ktr_units); (case m3 => k_mem); (case hv => first | assumption | exact IntsAre.nil | (apply ints_snoc; first | assumption | exact IntsAre.nil | (apply ints_snoc; first | assumption | exact IntsAre.nil))); (case hs => ((try simp only [List.length_append, List.length_cons, List.length_nil]); omega)); (case h1 => ((try simp only [List.length_append, List.length_cons, List.length_nil]); omega)); (case h2 => ((try simp only [List.length_append, List.length_cons, List.length_nil]); omega)); k_whole; intro t' h' tk' F' N'; (try k_sweep)))
  k_with "call ref" => (k_here; (try dsimp only [List.nil_append, List.cons_append]); (with_reducible show wpAny _ _ (call (Value.ref 401) [Value.ref _]) _ _ _); k_dflt (refine' useE (pop_bad ?m1 ?m2 ?m3 IntsAre.nil) ?B ?F ?X ?N ?T ?hk ?hd ?hu ?_; (case B => k_asm); (case F => k_asm); (case X => k_asm); (case N => k_asm); (case T => k_asm); (case m1 => k_mem); (case m2 => k_mem); (case m3 => k_mem); (case hk => exact rfl); (case hd => ktr_room); (case hu => ktr_units); k_whole; intro G' e' t' x' h' tk' F' R' U'))
  k_with "call ref" => (k_here; (try dsimp only [List.nil_append, List.cons_append]); (with_reducible show wpAny _ _ (call (Value.ref 394) [Value.ref _, Value.int _ _]) _ _ _); k_dflt (refine' useE (push_bad ?m1 ?m2 ?m3 ?hv ?hm ?hs ?h2) ?B ?F ?X ?N ?T ?hk ?hd ?hu ?_; (case B => k_asm); (case F => k_asm); (case X => k_asm); (case N => k_asm); (case T => k_asm); (case m1 => k_mem); (case m2 => k_mem); (case m3 => k_mem); (case hv => first | assumption | exact IntsAre.nil | (apply ints_snoc; assumption)); (case hm => decide); (case hs => ((try simp only [List.length_append, List.length_cons, List.length_nil]); omega)); (case h2 => ((try simp only [List.length_append, List.length_cons, List.length_nil]); omega)); (case hk => exact rfl); (case hd => ktr_room); (case hu => ktr_units); k_whole; intro G' e' t' x' h' tk' F' R' U'))
  k_with "call ref" => (k_here; (try dsimp only [List.nil_append, List.cons_append]); (with_reducible show wpAny _ _ (call (Value.ref 408) [Value.ref _, Value.int _ _]) _ _ _); k_dflt (refine' useE (peek_bad ?m1 ?m2 ?m3 ?hv ?hs ?h1 ?h2) ?B ?F ?X ?N ?T ?hk ?hd ?hu ?_; (case B => k_asm); (case F => k_asm); (case X => k_asm); (case N => k_asm); (case T => k_asm); (case m1 => k_mem); (case m2 => k_mem); (case m3 => k_mem); (case hv => first | assumption | exact IntsAre.nil | (apply ints_snoc; assumption)); (case hs => ((try simp only [List.length_append, List.length_cons, List.length_nil]); omega)); (case h1 => ((try simp only [List.length_append, List.length_cons, List.length_nil]); omega)); (case h2 => omega); (case hk => exact rfl); (case hd => ktr_room); (case hu => ktr_units); k_whole; intro G' e' t' x' h' tk' F' R' U'))
  k_with "call ref" => (k_here; (try dsimp only [List.nil_append, List.cons_append]); (with_reducible show wpAny _ _ (call (Value.ref 74) [Value.int _ _]) _ _ _); k_dflt (refine' useC (wrap32_c _ _ _) ?B ?F ?X ?N ?T ?hk ?hp ?hd ?hu ?_; (case B => k_asm); (case F => k_asm); (case X => k_asm); (case N => k_asm); (case T => k_asm); (case hk => exact rfl); (case hp => trivial); (case hd => ktr_room); (case hu => ktr_units); k_whole; intro t' h' tk' F' N'; (try k_sweep)))
  k_with "call ref" => (k_here; (try dsimp only [List.nil_append, List.cons_append]); (with_reducible show wpAny _ _ (call (Value.ref 81) [Value.int _ _]) _ _ _); k_dflt (refine' useC (floor6_c _ _ _) ?B ?F ?X ?N ?T ?hk ?hp ?hd ?hu ?_; (case B => k_asm); (case F => k_asm); (case X => k_asm); (case N => k_asm); (case T => k_asm); (case hk => exact rfl); (case hp => omega); (case hd => ktr_room); (case hu => ktr_units); k_whole; intro t' h' tk' F' N'; (try k_sweep)))
  k_with "call ref" => (k_here; (try dsimp only [List.nil_append, List.cons_append]); (with_reducible show wpAny _ _ (call (Value.ref 88) [Value.int _ _]) _ _ _); k_dflt (refine' useC (ceiling6_c _ _ _) ?B ?F ?X ?N ?T ?hk ?hp ?hd ?hu ?_; (case B => k_asm); (case F => k_asm); (case X => k_asm); (case N => k_asm); (case T => k_asm); (case hk => exact rfl); (case hp => omega); (case hd => ktr_room); (case hu => ktr_units); k_whole; intro t' h' tk' F' N'; (try k_sweep)))
  k_with "call ref" => (k_here; (try dsimp only [List.nil_append, List.cons_append]); (with_reducible show wpAny _ _ (call (Value.ref 198) [Value.int _ _, Value.int _ _, Value.int _ _]) _ _ _); k_dflt (refine' useC (compared_c _ _ _ _ _ _ _) ?B ?F ?X ?N ?T ?hk ?hp ?hd ?hu ?_; (case B => k_asm); (case F => k_asm); (case X => k_asm); (case N => k_asm); (case T => k_asm); (case hk => exact rfl); (case hp => trivial); (case hd => ktr_room); (case hu => ktr_units); k_whole; intro t' h' tk' F' N'; (try k_sweep)))
  k_with "call ref" => (k_here; (try dsimp only [List.nil_append, List.cons_append]); (with_reducible show wpAny _ _ (call (Value.ref 226) [Value.int _ _, Value.int _ _, Value.int _ _]) _ _ _); k_dflt (refine' useV (g := fun t => Value.int _ t) (two_c _ _ _ _ _ _ _ ?h1 ?h2 ?h3) ?B ?F ?X ?N ?T ?hk ?hd ?hu ?_; (case B => k_asm); (case F => k_asm); (case X => k_asm); (case N => k_asm); (case T => k_asm); (case h1 => omega); (case h2 => omega); (case h3 => omega); (case hk => exact rfl); (case hd => ktr_room); (case hu => ktr_units); k_whole; intro t' h' tk' F' N'; (try k_sweep)))
  k_with "call ref" => (k_here; (try dsimp only [List.nil_append, List.cons_append]); (with_reducible show wpAny _ _ (call (Value.ref 226) [Value.int 98 _, Value.int _ _, Value.int 0 _]) _ _ _); k_dflt (refine' useE (two_bad _ _ _ _ _) ?B ?F ?X ?N ?T ?hk ?hd ?hu ?_; (case B => k_asm); (case F => k_asm); (case X => k_asm); (case N => k_asm); (case T => k_asm); (case hk => exact rfl); (case hd => ktr_room); (case hu => ktr_units); k_whole; intro G' e' t' x' h' tk' F' R' U'))
  k_with "leaving ref" => (k_here; (rename RaisedS _ _ _ _ _ _ _ _ _ => rs); k_dflt (refine' leave_onX ?K rfl ?F rs ?U ?_; (case K => k_asm); (case F => k_asm); (case U => k_asm); k_whole; intro h' R' U'))
  k_with "eval Call Attribute" => first
    | ((with_reducible show wpAny _ _ (eval (Expr.Call (Expr.Attribute (Expr.Attribute _ _ _) (Str.ofString "pop") _) [] [] _) _) _ _ _); k_dflt (refine' popE ?B ?F ?X ?N ?T ?hm ?mW ?mWD ?mST ?mSD ?U ?hv ?hs ?hk ?hx ?hd ?hu ?he ?_; (case B => k_asm); (case F => k_asm); (case X => k_asm); (case N => k_asm); (case T => k_asm); (case hm => exact rfl); (case mW => k_mem); (case mWD => k_mem); (case mST => k_mem); (case mSD => k_mem); (case U => k_upd); (case hv => first | assumption | exact IntsAre.nil | (apply ints_snoc; first | assumption | exact IntsAre.nil | (apply ints_snoc; first | assumption | exact IntsAre.nil))); (case hs => ((try simp only [List.length_append, List.length_cons, List.length_nil]); omega)); (case hk => exact rfl); (case hx => exact rfl); (case hd => ktr_room); (case hu => ktr_units); (case he => exact rfl); k_whole; intro t' h' tk' F' N'; (try k_sweep)))
    | ((with_reducible show wpAny _ _ (eval (Expr.Call (Expr.Attribute (Expr.Attribute _ _ _) (Str.ofString "pop") _) [] [] _) _) _ _ _); k_dflt (refine' popX ?B ?F ?X ?N ?T ?hm ?mW ?mWD ?mST ?mSD ?mN ?hk ?hx ?hd ?hu ?he ?_; (case B => k_asm); (case F => k_asm); (case X => k_asm); (case N => k_asm); (case T => k_asm); (case hm => exact rfl); (case mW => k_mem); (case mWD => k_mem); (case mST => k_mem); (case mSD => k_mem); (case mN => k_mem); (case hk => exact rfl); (case hx => exact rfl); (case hd => ktr_room); (case hu => ktr_units); (case he => exact rfl); k_whole; intro G' e' t' x' h' tk' F' R' U'))
    | ((with_reducible show wpAny _ _ (eval (Expr.Call (Expr.Attribute (Expr.Attribute _ _ _) (Str.ofString "push") _) [Expr.Name _ _] [] _) _) _ _ _); k_dflt (refine' pushN ?B ?F ?X ?N ?T ?hm ?mW ?mWD ?mST ?mSD ?U ?hv ?hs ?hm2 ?hx2 ?hb ?hk ?hx ?hd ?hu ?he ?_; (case B => k_asm); (case F => k_asm); (case X => k_asm); (case N => k_asm); (case T => k_asm); (case hm => exact rfl); (case mW => k_mem); (case mWD => k_mem); (case mST => k_mem); (case mSD => k_mem); (case hm2 => exact rfl); (case U => k_upd); (case hv => first | assumption | exact IntsAre.nil | (apply ints_snoc; first | assumption | exact IntsAre.nil | (apply ints_snoc; first | assumption | exact IntsAre.nil))); (case hs => ((try simp only [List.length_append, List.length_cons, List.length_nil]); omega)); (case hx2 => exact rfl); (case hb => decide); (case hk => exact rfl); (case hx => exact rfl); (case hd => ktr_room); (case hu => ktr_units); (case he => exact rfl); k_whole; intro h' tk' F' N'; (try k_sweep)))
  trivial
section
variable {w : World} {mean : ExcName → Option Value} {mg mb : Str → Option Value}
theorem delta_c (a : WA) (GS GSD : Nat) (gO : Obj) (CV : Nat) (p : Int) (tp : Tok) (arg base : Int) (t1 t2 : Tok) (news : List (Addr × Obj)) (m1 : (a.W, instObj 476 a.WD) ∈ news) (m2 : (a.WD, dictOf [⟨a.hs 0, .str (Str.ofString "state") (a.ts 0), .ref GS⟩, ⟨a.hs 1, .str (Str.ofString "stack") (a.ts 1), .ref a.ST⟩, ⟨a.hs 2, .str (Str.ofString "zones") (a.ts 2), a.z⟩, ⟨a.hs 3, .str (Str.ofString "cvt") (a.ts 3), .ref CV⟩,
  ⟨a.hs 4, .str (Str.ofString "storage") (a.ts 4), a.sto⟩, ⟨a.hs 5, .str (Str.ofString "ppem") (a.ts 5), .int p tp⟩, ⟨a.hs 6, .str (Str.ofString "point_size") (a.ts 6), a.ps⟩, ⟨a.hs 7, .str (Str.ofString "scale") (a.ts 7), a.sc⟩] 8) ∈ news) (m3 : (GS, instObj 369 GSD) ∈ news) (m4 : (GSD, gO) ∈ news) (g : GsOk gO)
    (hb : 0 ≤ arg ∧ arg < 2^20) (hbb : 0 ≤ base ∧ base < 2^20) (hp : 0 ≤ p ∧ p < 2^20) :
    CbM w mean mg mb 296 20 1000 news [.ref a.W, .int arg t1, .int base t2] (fun n' r => n' = news ∧ ∃ t, r = .int (deltaS p arg base) t) := by
  obtain ⟨es9, n9, b9, b3, rfl, q9, q3⟩ := g
  refine CbM_mk ?_; intro dpY unY gdY cnY csY acY ccY clY ouY a0Y baY h0Y LY mY shY sgY sdY skY soY QY EY aB aF aX aN aT akY adY auY hret
  k_dflt cell_enter
  k_with "getAttr ref" => (k_dflt (refine' get_own ?k1 ?k2 ?k3 ?k4 ?k5 ?k6 ?k7 ?k8 ?k9 ?_; (case k1 => k_asm); (case k2 => k_asm); (case k3 => k_inst); (case k4 => k_is); (case k5 => k_is); (case k6 => k_is); (case k7 => k_is); (case k8 => assumption); (case k9 => k_handed); k_whole))

  k_steps

  all_goals (
    rename News _ _ _ _ => kN
    refine hret _ _ _ _ (by k_asm) kN ⟨rfl, _, int_eq ?_⟩
    first
      | exact de1 (by assumption)
      | exact de2 (by assumption) (by assumption)
      | exact de3 (by assumption) (by assumption))
end
end

section
open PySem PySem.W PyProof.Rows PySem.Calls
theorem kwOpsD2 : True := by
  k_with_none
  w_top off
  trivial
theorem kwOpsD2_1 : True := by
  k_with_none
  k_with "cell_enter" => ((refine' enterM ?k1 ?k2 ?k3 ?k4 ?k5 ?kA ?kF ?kK ?k6 ?k7 ?k8 ?k9 ?kB ?_ ?c2 ?c3 ?c4 ?c5; (case kA => exact rfl); (case kF => exact rfl); (case kK => assumption); (case k1 => k_asm); (case k2 => k_asm); (case k3 => k_asm); (case k4 => k_asm); (case k5 => k_asm); (case k6 => k_is); (case k7 => k_is); (case k8 => first | ktr_room | k_room); (case k9 => first | exact BindsTo.of_eq rfl | exact binds_K (by k_in) rfl (by k_is) rfl rfl rfl); (case c5 => decide); (case kB => exact locs rfl); (case c2 => exact rfl); (case c3 => exact rfl); (case c4 => exact rfl); k_whole; intro mqzz gqzz Lqzz hqzz tqzz FGqzz Fqzz Nqzz Bqzz Xqzz Tqzz qkqzz ekqzz))
  k_with "storeName" => ((k_dflt (refine' storeL ?F ?N ?a ?b ?_; (case F => k_asm); (case N => k_asm); (case a => rfl); (case b => rfl); k_whole; intro mszz hszz tszz Fszz Nszz; (try k_sweep))))
  k_with "leaveF" => ((k_dflt (first | (refine' leaveF_ret ?k1 ?k2 ?_; (case k1 => k_asm); (case k2 => k_asm); k_whole) | (refine' leaveF_next ?k1 ?k2 ?_; (case k1 => k_asm); (case k2 => k_asm); k_whole)); intro kFlzz kNlzz; ground_anew kFlzz))
  k_with "ktr_room" => (((try dsimp only [depth_under_make, depth_under_kw, depth_in1, depth_deeper]); first | exact room1 (by assumption) (by decide) | exact room2 (by assumption) (by decide) | exact room0 (by assumption) | exact room3 (by assumption) (by decide) | exact room4 (by assumption) (by decide)))
  k_with "ktr_units" => (((try dsimp only [units_under_make, units_in1, units_deeper, Around.mark_units]); first | exact room1 (by assumption) (by decide) | exact room2 (by assumption) (by decide) | exact room0 (by assumption) | exact room3 (by assumption) (by decide) | exact room4 (by assumption) (by decide)))
  k_with "k_ne" => ((refine neN ?_; (try dsimp only); first | assumption | exact Ne.symm (by assumption) | exact Nat.ne_of_gt (by assumption) | exact Nat.ne_of_lt (by assumption) | exact neP1 (by assumption) | exact neP2 (by assumption) | exact neP3 (by assumption) | exact neP4 (by assumption) | exact neP5 (by assumption)))
  k_with "k_mem" => (first | assumption | exact List.Mem.head _ | (refine' List.Mem.tail _ ?_; k_mem))
  k_with "k_all" => (first | assumption | (refine all1 ?_ (by assumption); k_ne) | (refine all2 ?_ ?_ (by assumption) <;> k_ne) | (refine all3 ?_ ?_ ?_ (by assumption) <;> k_ne))
  k_with "execs cons" => (((with_reducible show wpAny _ _ _ _ _ (PySem.Shared.mk _ _ _ (_ + 1) _)); refine genToks ?_; intro tk9zz))
  k_with "eval Constant int" => ((refine constG ?_; intro t9zz tk9zz))
  k_with "ke_room" => (ktr_units)
  k_with "k_room" => (((try simp only [depth_under_make, depth_under_kw, depth_in1]); ktr_room))
  trivial
theorem chain_cv {a : WA} {N STO GS GSD CV : Nat} {oS o1 gO oc oc' : Obj} {rest : List (Addr × Obj)} (h : Chain a N ((STO, oS) :: (GS, o1) :: (GSD, gO) :: (CV, oc) :: rest)) : Chain a N ((STO, oS) :: (GS, o1) :: (GSD, gO) :: (CV, oc') :: rest) := by
  refine ⟨h.c1, h.c2, h.c3, h.c4, fun p hp => ?_, fun p hp => ?_⟩
  · simp only [List.mem_cons] at hp
    rcases hp with rfl | rfl | rfl | rfl | hp
    · exact h.r1 (STO, oS) (by simp)
    · exact h.r1 (GS, o1) (by simp)
    · exact h.r1 (GSD, gO) (by simp)
    · exact h.r1 (CV, oc) (by simp)
    · exact h.r1 p (by simp [hp])
  · simp only [List.mem_cons] at hp
    rcases hp with rfl | rfl | rfl | rfl | hp
    · exact h.r2 (STO, oS) (by simp)
    · exact h.r2 (GS, o1) (by simp)
    · exact h.r2 (GSD, gO) (by simp)
    · exact h.r2 (CV, oc) (by simp)
    · exact h.r2 p (by simp [hp])
section
variable {w : World} {mean : ExcName → Option Value} {mg mb : Str → Option Value}
theorem off2 {a b I : Nat} {oa ob : Obj} {rest : List (Addr × Obj)} (H : a < I ∧ b < I ∧ AllLt I rest) : ∀ p ∈ ((a, oa) :: (b, ob) :: rest : List (Addr × Obj)), p.1 ≠ I := fun p hp => Nat.ne_of_lt (kst_ltOf (show AllLt I ((a, oa) :: (b, ob) :: rest) from H) p hp)
theorem cvtv_c {a : WA} {GS CV kc : Nat} {p : Int} {tp : Tok} {cvs : List Value} {ns : List Int} {news : List (Addr × Obj)} (i : Int) (ti : Tok) (m1 : (a.W, instObj 476 a.WD) ∈ news) (m2 : (a.WD, dictOf [⟨a.hs 0, .str (Str.ofString "state") (a.ts 0), .ref GS⟩, ⟨a.hs 1, .str (Str.ofString "stack") (a.ts 1), .ref a.ST⟩, ⟨a.hs 2, .str (Str.ofString "zones") (a.ts 2), a.z⟩, ⟨a.hs 3, .str (Str.ofString "cvt") (a.ts 3), .ref CV⟩,
  ⟨a.hs 4, .str (Str.ofString "storage") (a.ts 4), a.sto⟩, ⟨a.hs 5, .str (Str.ofString "ppem") (a.ts 5), .int p tp⟩, ⟨a.hs 6, .str (Str.ofString "point_size") (a.ts 6), a.ps⟩, ⟨a.hs 7, .str (Str.ofString "scale") (a.ts 7), a.sc⟩] 8) ∈ news) (m3 : (CV, listOf cvs.toArray kc) ∈ news) (hcv : IntsAre cvs ns) (hns : ns.length = 3) (hi : 0 ≤ i ∧ i < ns.length) :
    CbM w mean mg mb 459 10 500 news [.ref a.W, .int i ti] (fun n' r => n' = news ∧ ∃ t, r = .int (ns.getD i.toNat 0) t) := by
  refine CbM_mk ?_; intro dpY unY gdY cnY csY acY ccY clY ouY a0Y baY h0Y LY mY shY sgY sdY skY soY QY EY aB aF aX aN aT akY adY auY hret
  have hcl := hcv.length
  obtain ⟨i0, i1⟩ := hi
  rw [hns] at i1
  k_with_none
  k_with "cell_enter" => ((refine' enterM ?k1 ?k2 ?k3 ?k4 ?k5 ?kA ?kF ?kK ?k6 ?k7 ?k8 ?k9 ?kB ?_ ?c2 ?c3 ?c4 ?c5; (case kA => exact rfl); (case kF => exact rfl); (case kK => assumption); (case k1 => k_asm); (case k2 => k_asm); (case k3 => k_asm); (case k4 => k_asm); (case k5 => k_asm); (case k6 => k_is); (case k7 => k_is); (case k8 => first | ktr_room | k_room); (case k9 => first | exact BindsTo.of_eq rfl | exact binds_K (by k_in) rfl (by k_is) rfl rfl rfl); (case c5 => decide); (case kB => exact locs rfl); (case c2 => exact rfl); (case c3 => exact rfl); (case c4 => exact rfl); k_whole; intro mqzz gqzz Lqzz hqzz tqzz FGqzz Fqzz Nqzz Bqzz Xqzz Tqzz qkqzz ekqzz))
  k_with "storeName" => ((k_dflt (refine' storeL ?F ?N ?a ?b ?_; (case F => k_asm); (case N => k_asm); (case a => rfl); (case b => rfl); k_whole; intro mszz hszz tszz Fszz Nszz; (try k_sweep))))
  k_with "leaveF" => ((k_dflt (first | (refine' leaveF_ret ?k1 ?k2 ?_; (case k1 => k_asm); (case k2 => k_asm); k_whole) | (refine' leaveF_next ?k1 ?k2 ?_; (case k1 => k_asm); (case k2 => k_asm); k_whole)); intro kFlzz kNlzz; ground_anew kFlzz))
  k_with "ktr_room" => (((try dsimp only [depth_under_make, depth_under_kw, depth_in1, depth_deeper]); first | exact room1 (by assumption) (by decide) | exact room2 (by assumption) (by decide) | exact room0 (by assumption) | exact room3 (by assumption) (by decide) | exact room4 (by assumption) (by decide)))
  k_with "ktr_units" => (((try dsimp only [units_under_make, units_in1, units_deeper, Around.mark_units]); first | exact room1 (by assumption) (by decide) | exact room2 (by assumption) (by decide) | exact room0 (by assumption) | exact room3 (by assumption) (by decide) | exact room4 (by assumption) (by decide)))
  k_with "k_ne" => ((refine neN ?_; (try dsimp only); first | assumption | exact Ne.symm (by assumption) | exact Nat.ne_of_gt (by assumption) | exact Nat.ne_of_lt (by assumption) | exact neP1 (by assumption) | exact neP2 (by assumption) | exact neP3 (by assumption) | exact neP4 (by assumption) | exact neP5 (by assumption)))
  k_with "k_mem" => (first | assumption | exact List.Mem.head _ | (refine' List.Mem.tail _ ?_; k_mem))
  k_with "k_all" => (first | assumption | (refine all1 ?_ (by assumption); k_ne) | (refine all2 ?_ ?_ (by assumption) <;> k_ne) | (refine all3 ?_ ?_ ?_ (by assumption) <;> k_ne))
  k_with "execs cons" => (((with_reducible show wpAny _ _ _ _ _ (PySem.Shared.mk _ _ _ (_ + 1) _)); refine genToks ?_; intro tk9zz))
  k_with "eval Constant int" => ((refine constG ?_; intro t9zz tk9zz))
  k_with "ke_room" => (ktr_units)
  k_with "k_room" => (((try simp only [depth_under_make, depth_under_kw, depth_in1]); ktr_room))
  k_with "execs cons" => first | ((with_reducible show wpAny _ _ _ _ _ (PySem.Shared.mk _ _ _ (_ + 1) _)); refine genToks ?_; intro tk9) | (refine consQ ?_; intro q9)
  k_with "flowQ" => first | (refine flow_next ?_) | (refine flow_ret ?_)
  k_with "call builtin:len" => ((with_reducible show wpAny _ _ (call (Value.builtin "len") [Value.ref _]) _ _ _); k_dflt (refine' kst_len ?k1 ?k2 ?k3 ?k4 ?_; (case k1 => k_asm); (case k2 => k_mem); (case k3 => exact rfl); (case k4 => (first | lia | omega)); k_whole))
  k_dflt cell_enter
  k_steps
  all_goals (rename News _ _ _ _ => kN)
  all_goals exact hret _ _ _ _ (by k_asm) (kst_newsOf kN (by intro p hp; repeat' (first | exact hp | apply List.Mem.tail))) ⟨rfl, _, rfl⟩
theorem putc_c {a : WA} {GS CV kc : Nat} {p : Int} {tp : Tok} {cvs : List Value} {ns : List Int} {news : List (Addr × Obj)} {G : Obj → List (Addr × Obj)} (i v : Int) (ti tv : Tok) (m1 : (a.W, instObj 476 a.WD) ∈ news) (m2 : (a.WD, dictOf [⟨a.hs 0, .str (Str.ofString "state") (a.ts 0), .ref GS⟩, ⟨a.hs 1, .str (Str.ofString "stack") (a.ts 1), .ref a.ST⟩, ⟨a.hs 2, .str (Str.ofString "zones") (a.ts 2), a.z⟩, ⟨a.hs 3, .str (Str.ofString "cvt") (a.ts 3), .ref CV⟩,
  ⟨a.hs 4, .str (Str.ofString "storage") (a.ts 4), a.sto⟩, ⟨a.hs 5, .str (Str.ofString "ppem") (a.ts 5), .int p tp⟩, ⟨a.hs 6, .str (Str.ofString "point_size") (a.ts 6), a.ps⟩, ⟨a.hs 7, .str (Str.ofString "scale") (a.ts 7), a.sc⟩] 8) ∈ news) (U : UpdF CV (listOf cvs.toArray kc) news G) (hcv : IntsAre cvs ns) (hns : ns.length = 3) (hi : 0 ≤ i ∧ i < ns.length) :
    CbM w mean mg mb 466 20 1000 news [.ref a.W, .int i ti, .int v tv] (fun n' r => ∃ cvs', IntsAre cvs' (ns.set i.toNat v) ∧ r = .none ∧ n' = G (listOf cvs'.toArray kc)) := by
  obtain ⟨pre, post, rfl, hg, ha, hb⟩ := U.split
  have w1 : (a.W, instObj 476 a.WD) ∈ pre ++ post := by
    rcases List.mem_append.mp m1 with q | q
    · exact List.mem_append_left _ q
    · rcases List.mem_cons.mp q with q | q
      · exact absurd (congrArg Prod.snd q) inst_ne_list
      · exact List.mem_append_right _ q
  have w2 : (a.WD, dictOf [⟨a.hs 0, .str (Str.ofString "state") (a.ts 0), .ref GS⟩, ⟨a.hs 1, .str (Str.ofString "stack") (a.ts 1), .ref a.ST⟩, ⟨a.hs 2, .str (Str.ofString "zones") (a.ts 2), a.z⟩, ⟨a.hs 3, .str (Str.ofString "cvt") (a.ts 3), .ref CV⟩,
  ⟨a.hs 4, .str (Str.ofString "storage") (a.ts 4), a.sto⟩, ⟨a.hs 5, .str (Str.ofString "ppem") (a.ts 5), .int p tp⟩, ⟨a.hs 6, .str (Str.ofString "point_size") (a.ts 6), a.ps⟩, ⟨a.hs 7, .str (Str.ofString "scale") (a.ts 7), a.sc⟩] 8) ∈ pre ++ post := by
    rcases List.mem_append.mp m2 with q | q
    · exact List.mem_append_left _ q
    · rcases List.mem_cons.mp q with q | q
      · exact absurd (congrArg Prod.snd q) dict_ne_list
      · exact List.mem_append_right _ q
  have off : ∀ p ∈ pre ++ post, p.1 ≠ CV := fun p hp => (List.mem_append.mp hp).elim (ha p) (hb p)
  have to : ∀ {o : Obj} {h₀ h : Heap} {L : Addr}, News h₀ L h ((CV, o) :: (pre ++ post)) → News h₀ L h (pre ++ (CV, o) :: post) := fun N p hp => N p (by
    simp only [List.mem_append, List.mem_cons] at hp ⊢
    rcases hp with hp | hp | hp <;> simp [hp])
  have fro : ∀ {o : Obj} {h₀ h : Heap} {L : Addr}, News h₀ L h (pre ++ (CV, o) :: post) → News h₀ L h ((CV, o) :: (pre ++ post)) := fun N p hp => N p (by
    simp only [List.mem_append, List.mem_cons] at hp ⊢
    rcases hp with hp | hp | hp <;> simp [hp])
  clear m1 m2 U ha hb
  generalize pre ++ post = R at w1 w2 off to fro
  refine CbM_mk ?_; intro dpY unY gdY cnY csY acY ccY clY ouY a0Y baY h0Y LY mY shY sgY sdY skY soY QY EY aB aF aX aN aT akY adY auY hret
  replace aN := fro aN
  have hcl := hcv.length
  obtain ⟨i0, i1⟩ := id hi
  rw [hns] at i1
  k_with_none
  k_with "cell_enter" => ((refine' enterM ?k1 ?k2 ?k3 ?k4 ?k5 ?kA ?kF ?kK ?k6 ?k7 ?k8 ?k9 ?kB ?_ ?c2 ?c3 ?c4 ?c5; (case kA => exact rfl); (case kF => exact rfl); (case kK => assumption); (case k1 => k_asm); (case k2 => k_asm); (case k3 => k_asm); (case k4 => k_asm); (case k5 => k_asm); (case k6 => k_is); (case k7 => k_is); (case k8 => first | ktr_room | k_room); (case k9 => first | exact BindsTo.of_eq rfl | exact binds_K (by k_in) rfl (by k_is) rfl rfl rfl); (case c5 => decide); (case kB => exact locs rfl); (case c2 => exact rfl); (case c3 => exact rfl); (case c4 => exact rfl); k_whole; intro mqzz gqzz Lqzz hqzz tqzz FGqzz Fqzz Nqzz Bqzz Xqzz Tqzz qkqzz ekqzz))
  k_with "storeName" => ((k_dflt (refine' storeL ?F ?N ?a ?b ?_; (case F => k_asm); (case N => k_asm); (case a => rfl); (case b => rfl); k_whole; intro mszz hszz tszz Fszz Nszz; (try k_sweep))))
  k_with "leaveF" => ((k_dflt (first | (refine' leaveF_ret ?k1 ?k2 ?_; (case k1 => k_asm); (case k2 => k_asm); k_whole) | (refine' leaveF_next ?k1 ?k2 ?_; (case k1 => k_asm); (case k2 => k_asm); k_whole)); intro kFlzz kNlzz; ground_anew kFlzz))
  k_with "ktr_room" => (((try dsimp only [depth_under_make, depth_under_kw, depth_in1, depth_deeper]); first | exact room1 (by assumption) (by decide) | exact room2 (by assumption) (by decide) | exact room0 (by assumption) | exact room3 (by assumption) (by decide) | exact room4 (by assumption) (by decide)))
  k_with "ktr_units" => (((try dsimp only [units_under_make, units_in1, units_deeper, Around.mark_units]); first | exact room1 (by assumption) (by decide) | exact room2 (by assumption) (by decide) | exact room0 (by assumption) | exact room3 (by assumption) (by decide) | exact room4 (by assumption) (by decide)))
  k_with "k_ne" => ((refine neN ?_; (try dsimp only); first | assumption | exact Ne.symm (by assumption) | exact Nat.ne_of_gt (by assumption) | exact Nat.ne_of_lt (by assumption) | exact neP1 (by assumption) | exact neP2 (by assumption) | exact neP3 (by assumption) | exact neP4 (by assumption) | exact neP5 (by assumption)))
  k_with "k_mem" => (first | assumption | exact List.Mem.head _ | (refine' List.Mem.tail _ ?_; k_mem))
  k_with "k_all" => (first | assumption | (refine all1 ?_ (by assumption); k_ne) | (refine all2 ?_ ?_ (by assumption) <;> k_ne) | (refine all3 ?_ ?_ ?_ (by assumption) <;> k_ne))
  k_with "execs cons" => (((with_reducible show wpAny _ _ _ _ _ (PySem.Shared.mk _ _ _ (_ + 1) _)); refine genToks ?_; intro tk9zz))
  k_with "eval Constant int" => ((refine constG ?_; intro t9zz tk9zz))
  k_with "ke_room" => (ktr_units)
  k_with "k_room" => (((try simp only [depth_under_make, depth_under_kw, depth_in1]); ktr_room))
  k_with "execs cons" => first | ((with_reducible show wpAny _ _ _ _ _ (PySem.Shared.mk _ _ _ (_ + 1) _)); refine genToks ?_; intro tk9) | (refine consQ ?_; intro q9)
  k_with "flowQ" => first | (refine flow_next ?_) | (refine flow_ret ?_)
  k_with "call ref" => ((with_reducible show wpAny _ _ (call (Value.ref 459) _) _ _ _); (try dsimp only [List.nil_append, List.cons_append]); (k_dflt (refine' useV (g := fun t => Value.int _ t) (cvtv_c (GS := GS) (CV := CV) (kc := kc) (p := p) (tp := tp) _ _ ?m1 ?m2 ?m3 hcv hns hi) ?B ?F ?X ?N ?T ?hk ?hd ?hu ?_; (case B => k_asm); (case F => k_asm); (case X => k_asm); (case N => k_asm); (case T => k_asm); (case m1 => k_mem); (case m2 => k_mem); (case m3 => k_mem); (case hk => exact rfl); (case hd => ktr_room); (case hu => ktr_units); k_whole; intro t' h' tk' F' N'; (try k_sweep))))
  k_dflt cell_enter
  k_steps
  all_goals (rename News _ _ _ _ => kN; rename IntsAre _ _ => kI)
  all_goals exact hret _ _ _ _ (by k_asm) (by rw [hg]; exact to kN) ⟨_, kI, rfl, rfl⟩
theorem usePut {dp un : Nat} {gd : Option (List Code)} {cn : Str} {cs : Scope} {a : Addr} {ccd : Value} {cl : List (Str × Addr)} {outer : List Env} {A₀ : Around} {base h₀ : Heap} {L : Addr} {m : Str → Option Value} {s : Shared} {Q E : Value → Shared → Prop}
    {aa : WA} {GS CV kc : Nat} {p : Int} {tp : Tok} {cvs : List Value} {ns : List Int} {news : List (Addr × Obj)} {G : Obj → List (Addr × Obj)} {i v : Int} {ti tv : Tok} (m1 : (aa.W, instObj 476 aa.WD) ∈ news) (m2 : (aa.WD, dictOf [⟨aa.hs 0, .str (Str.ofString "state") (aa.ts 0), .ref GS⟩, ⟨aa.hs 1, .str (Str.ofString "stack") (aa.ts 1), .ref aa.ST⟩, ⟨aa.hs 2, .str (Str.ofString "zones") (aa.ts 2), aa.z⟩, ⟨aa.hs 3, .str (Str.ofString "cvt") (aa.ts 3), .ref CV⟩,
  ⟨aa.hs 4, .str (Str.ofString "storage") (aa.ts 4), aa.sto⟩, ⟨aa.hs 5, .str (Str.ofString "ppem") (aa.ts 5), .int p tp⟩, ⟨aa.hs 6, .str (Str.ofString "point_size") (aa.ts 6), aa.ps⟩, ⟨aa.hs 7, .str (Str.ofString "scale") (aa.ts 7), aa.sc⟩] 8) ∈ news) (U : UpdF CV (listOf cvs.toArray kc) news G) (hcv : IntsAre cvs ns) (hns : ns.length = 3) (hi : 0 ≤ i ∧ i < ns.length)
    (B : Below A₀ base outer h₀) (F : Fr h₀ L s.heap m) (X : (hd.heap_1 w.params).In h₀) (N0 : News h₀ L s.heap news) (T : Top hd.view_39 (looseW hd.view_39 [Str.ofString "HintWork"]) mean mg mb h₀)
    (hk : cs.kind = .function) (hd' : dp + 20 < recursionLimit) (hu : un + 1000 < cLine)
    (ret : ∀ (cvs' : List Value) (h' : Heap) (tk' : Nat), IntsAre cvs' (ns.set i.toNat v) → Fr h₀ L h' m → News h₀ L h' (G (listOf cvs'.toArray kc)) → Q .none { s with heap := h', toks := tk' }) :
    wpAny (model PySem.Challenge.rw_pf0201_01.row.prog w) (ktrTop dp un gd cn cs L a ccd cl outer) (call (.ref 466) [.ref aa.W, .int i ti, .int v tv]) Q E s :=
  useM (putc_c i v ti tv m1 m2 U hcv hns hi) B F X N0 T hk hd' hu fun r n' h' tk' P' F' N' => by
    obtain ⟨cvs', i', rfl, rfl⟩ := P'
    exact ret cvs' h' tk' i' F' N'
/-- do_deltac's walk, its ledger hidden but for the stack's list and the control values -/
noncomputable abbrev DelW (w : World) (mean : ExcName → Option Value) (mg mb : Str → Option Value) (c : Int) (us vs cvs : List Value) (ns' : List Int) (p : Int) : Prop :=
  ∀ (a : WA) (N GS GSD CV kc k : Nat) (gO : Obj) (tc tp : Tok) (R : List (Addr × Obj)) (dp un : Nat) (gd : Option (List Code)) (cn : Str) (cs : Scope) (ad : Addr) (ccd : Value) (cl : List (Str × Addr)) (outer : List Env) (A₀ : Around) (base h₀ : Heap) (L : Addr) (m : Str → Option Value) (h : Heap) (gn : Array GenState) (dr : Drawn) (tk : Nat) (os : OsState) (Q E : Value → Shared → Prop),
    (a.W, instObj 476 a.WD) ∈ R → (a.WD, wdObj a) ∈ R → (a.WD, dictOf [⟨a.hs 0, .str (Str.ofString "state") (a.ts 0), .ref GS⟩, ⟨a.hs 1, .str (Str.ofString "stack") (a.ts 1), .ref a.ST⟩, ⟨a.hs 2, .str (Str.ofString "zones") (a.ts 2), a.z⟩, ⟨a.hs 3, .str (Str.ofString "cvt") (a.ts 3), .ref CV⟩,
  ⟨a.hs 4, .str (Str.ofString "storage") (a.ts 4), a.sto⟩, ⟨a.hs 5, .str (Str.ofString "ppem") (a.ts 5), .int p tp⟩, ⟨a.hs 6, .str (Str.ofString "point_size") (a.ts 6), a.ps⟩, ⟨a.hs 7, .str (Str.ofString "scale") (a.ts 7), a.sc⟩] 8) ∈ R → (a.ST, instObj 425 a.SD) ∈ R → (a.SD, sdObj a.h1 a.h2 a.t1 a.t2 8 a.tm N) ∈ R → (GS, instObj 369 GSD) ∈ R → (GSD, gO) ∈ R →
    (∀ p ∈ R, p.1 ≠ N) → (∀ p ∈ R, p.1 ≠ CV) → N ≠ CV → GsOk gO →
    Below A₀ base outer h₀ → Fr h₀ L h m → (hd.heap_1 w.params).In h₀ → News h₀ L h ((N, listOf us.toArray k) :: (CV, listOf cvs.toArray kc) :: R) → Top hd.view_39 (looseW hd.view_39 [Str.ofString "HintWork"]) mean mg mb h₀ → cs.kind = .function →
    dp + 40 < recursionLimit → un + 2000 < cLine →
    (∀ (k' : Nat) (cvs' : List Value) (h' : Heap) (tk' : Nat), Fr h₀ L h' m → News h₀ L h' ((N, listOf vs.toArray k') :: (CV, listOf cvs'.toArray kc) :: R) → IntsAre cvs' ns' → Q .none ⟨h', gn, dr, tk', os⟩) →
      wpAny (model PySem.Challenge.rw_pf0201_01.row.prog w) (ktrTop dp un gd cn cs L ad ccd cl outer) (call (.ref 303) [.ref a.W, .int c tc]) Q E ⟨h, gn, dr, tk, os⟩
theorem delta_intro {xs : List Int} {c : Int} {tc : Tok} {a : WA} {N : Nat} {us vs : List Value} {k STO GS GSD CV kc : Nat} {oS gO : Obj} {cvs : List Value} {ns' : List Int} {p : Int} {tp : Tok} {rest0 : List (Addr × Obj)} (H : DelW w mean mg mb c us vs cvs ns' p) (hv : IntsAre vs xs)
    (hc : Chain a N ((STO, oS) :: (GS, instObj 369 GSD) :: (GSD, gO) :: (CV, listOf cvs.toArray kc) :: rest0)) (hg : a.gs = .ref GS) (hcva : a.cv = .ref CV) (hpp : a.pp = .int p tp) (g : GsOk gO) (w0 : CV < a.WD) (w1 : a.WD < a.W) (w2 : a.W < GSD) (w3 : GSD < GS) (w4 : GS < a.SD) (w7 : N < STO) (hr : ∀ p ∈ rest0, p.1 ≠ CV) :
    OpR w mean mg mb 303 c tc a N us k ((STO, oS) :: (GS, instObj 369 GSD) :: (GSD, gO) :: (CV, listOf cvs.toArray kc) :: rest0) xs (fun rest' => ∃ cvs', rest' = (STO, oS) :: (GS, instObj 369 GSD) :: (GSD, gO) :: (CV, listOf cvs'.toArray kc) :: rest0 ∧ IntsAre cvs' ns') := by
  intro d o l
  obtain ⟨c1, c2, c3, c4, r1, r2⟩ := id hc
  have key : wdObj a = dictOf [⟨a.hs 0, .str (Str.ofString "state") (a.ts 0), .ref GS⟩, ⟨a.hs 1, .str (Str.ofString "stack") (a.ts 1), .ref a.ST⟩, ⟨a.hs 2, .str (Str.ofString "zones") (a.ts 2), a.z⟩, ⟨a.hs 3, .str (Str.ofString "cvt") (a.ts 3), .ref CV⟩,
  ⟨a.hs 4, .str (Str.ofString "storage") (a.ts 4), a.sto⟩, ⟨a.hs 5, .str (Str.ofString "ppem") (a.ts 5), .int p tp⟩, ⟨a.hs 6, .str (Str.ofString "point_size") (a.ts 6), a.ps⟩, ⟨a.hs 7, .str (Str.ofString "scale") (a.ts 7), a.sc⟩] 8 := by rw [← hg, ← hcva, ← hpp]
  have ld : N < d := l (N, listOf us.toArray k) (.tail _ (.tail _ (.tail _ (.tail _ (.head _)))))
  have lc : CV < d := l (CV, listOf cvs.toArray kc) (.tail _ (.tail _ (.tail _ (.tail _ (.tail _ (.tail _ (.tail _ (.tail _ (.head _)))))))))
  have a1 : CV < a.W := Nat.lt_trans w0 w1
  have a2 : CV < a.SD := Nat.lt_trans a1 c2
  have a3 : CV < a.ST := Nat.lt_trans a2 c3
  have a4 : CV < N := Nat.lt_trans a3 c4
  have a5 : CV < STO := Nat.lt_trans a4 w7
  have a6 : CV < GSD := Nat.lt_trans a1 w2
  have a7 : CV < GS := Nat.lt_trans a6 w3
  have b1 : a.SD < N := Nat.lt_trans c3 c4
  have b2 : a.W < N := Nat.lt_trans c2 b1
  have b3 : a.WD < N := Nat.lt_trans c1 b2
  unfold CbM
  intro dp un gd cn cs ad ccd cl outer A₀ base h₀ L m s Q E B F X N0 T hk hd' hu ret
  refine H a N GS GSD CV kc k gO tc tp ((a.W, instObj 476 a.WD) :: (a.WD, wdObj a) :: (a.ST, instObj 425 a.SD) :: (a.SD, sdObj a.h1 a.h2 a.t1 a.t2 8 a.tm N) :: (STO, oS) :: (GS, instObj 369 GSD) :: (GSD, gO) :: (rest0 ++ [(d, o)])) dp un gd cn cs ad ccd cl outer A₀ base h₀ L m s.heap s.gens s.drawn s.toks s.os Q E
    (.head _) (.tail _ (.head _)) (by rw [← key]; exact .tail _ (.head _)) (.tail _ (.tail _ (.head _))) (.tail _ (.tail _ (.tail _ (.head _)))) (.tail _ (.tail _ (.tail _ (.tail _ (.tail _ (.head _)))))) (.tail _ (.tail _ (.tail _ (.tail _ (.tail _ (.tail _ (.head _))))))) ?_ ?_ (Nat.ne_of_gt a4) g B F X (List.forall_mem_cons.mpr ⟨N0 _ (.tail _ (.tail _ (.tail _ (.tail _ (.head _))))), List.forall_mem_cons.mpr ⟨N0 _ (.tail _ (.tail _ (.tail _ (.tail _ (.tail _ (.tail _ (.tail _ (.tail _ (.head _))))))))), List.forall_mem_cons.mpr ⟨N0 _ (.head _), List.forall_mem_cons.mpr ⟨N0 _ (.tail _ (.head _)), List.forall_mem_cons.mpr ⟨N0 _ (.tail _ (.tail _ (.head _))), List.forall_mem_cons.mpr ⟨N0 _ (.tail _ (.tail _ (.tail _ (.head _)))), List.forall_mem_cons.mpr ⟨N0 _ (.tail _ (.tail _ (.tail _ (.tail _ (.tail _ (.head _)))))), List.forall_mem_cons.mpr ⟨N0 _ (.tail _ (.tail _ (.tail _ (.tail _ (.tail _ (.tail _ (.head _))))))), List.forall_mem_cons.mpr ⟨N0 _ (.tail _ (.tail _ (.tail _ (.tail _ (.tail _ (.tail _ (.tail _ (.head _)))))))), fun p hp => N0 p (.tail _ (.tail _ (.tail _ (.tail _ (.tail _ (.tail _ (.tail _ (.tail _ (.tail _ (hp))))))))))⟩⟩⟩⟩⟩⟩⟩⟩⟩) T hk hd' hu fun k' cvs' h' tk' F' N' i' => ret _ (led a N vs k' ((STO, oS) :: (GS, instObj 369 GSD) :: (GSD, gO) :: (CV, listOf cvs'.toArray kc) :: (rest0 ++ [(d, o)]))) _ _ F' (List.forall_mem_cons.mpr ⟨N' _ (.tail _ (.tail _ (.head _))), List.forall_mem_cons.mpr ⟨N' _ (.tail _ (.tail _ (.tail _ (.head _)))), List.forall_mem_cons.mpr ⟨N' _ (.tail _ (.tail _ (.tail _ (.tail _ (.head _))))), List.forall_mem_cons.mpr ⟨N' _ (.tail _ (.tail _ (.tail _ (.tail _ (.tail _ (.head _)))))), List.forall_mem_cons.mpr ⟨N' _ (.head _), List.forall_mem_cons.mpr ⟨N' _ (.tail _ (.tail _ (.tail _ (.tail _ (.tail _ (.tail _ (.head _))))))), List.forall_mem_cons.mpr ⟨N' _ (.tail _ (.tail _ (.tail _ (.tail _ (.tail _ (.tail _ (.tail _ (.head _)))))))), List.forall_mem_cons.mpr ⟨N' _ (.tail _ (.tail _ (.tail _ (.tail _ (.tail _ (.tail _ (.tail _ (.tail _ (.head _))))))))), List.forall_mem_cons.mpr ⟨N' _ (.tail _ (.head _)), fun p hp => N' p (.tail _ (.tail _ (.tail _ (.tail _ (.tail _ (.tail _ (.tail _ (.tail _ (.tail _ (hp))))))))))⟩⟩⟩⟩⟩⟩⟩⟩⟩) ⟨rfl, N, vs, k', (STO, oS) :: (GS, instObj 369 GSD) :: (GSD, gO) :: (CV, listOf cvs'.toArray kc) :: rest0, hv, chain_cv hc, ⟨cvs', rfl, i'⟩, rfl⟩
  · exact all1 (Nat.ne_of_lt b2) (all1 (Nat.ne_of_lt b3) (all1 (Nat.ne_of_lt c4) (all1 (Nat.ne_of_lt b1) (all1 (r1 _ (.head _)) (all1 (r1 _ (.tail _ (.head _))) (all1 (r1 _ (.tail _ (.tail _ (.head _)))) (List.forall_mem_append.mpr ⟨fun p hp => r1 p (.tail _ (.tail _ (.tail _ (.tail _ hp)))), fun p hp => (List.mem_singleton.mp hp) ▸ Nat.ne_of_gt ld⟩)))))))
  · exact all1 (Nat.ne_of_gt a1) (all1 (Nat.ne_of_gt w0) (all1 (Nat.ne_of_gt a3) (all1 (Nat.ne_of_gt a2) (all1 (Nat.ne_of_gt a5) (all1 (Nat.ne_of_gt a7) (all1 (Nat.ne_of_gt a6) (List.forall_mem_append.mpr ⟨hr, fun p hp => (List.mem_singleton.mp hp) ▸ Nat.ne_of_gt lc⟩)))))))
theorem opsD2_words : True := by
  k_with_none
  k_with "cell_enter" => ((refine' enterM ?k1 ?k2 ?k3 ?k4 ?k5 ?kA ?kF ?kK ?k6 ?k7 ?k8 ?k9 ?kB ?_ ?c2 ?c3 ?c4 ?c5; (case kA => exact rfl); (case kF => exact rfl); (case kK => assumption); (case k1 => k_asm); (case k2 => k_asm); (case k3 => k_asm); (case k4 => k_asm); (case k5 => k_asm); (case k6 => k_is); (case k7 => k_is); (case k8 => first | ktr_room | k_room); (case k9 => first | exact BindsTo.of_eq rfl | exact binds_K (by k_in) rfl (by k_is) rfl rfl rfl); (case c5 => decide); (case kB => exact locs rfl); (case c2 => exact rfl); (case c3 => exact rfl); (case c4 => exact rfl); k_whole; intro mqzz gqzz Lqzz hqzz tqzz FGqzz Fqzz Nqzz Bqzz Xqzz Tqzz qkqzz ekqzz))
  k_with "storeName" => ((k_dflt (refine' storeL ?F ?N ?a ?b ?_; (case F => k_asm); (case N => k_asm); (case a => rfl); (case b => rfl); k_whole; intro mszz hszz tszz Fszz Nszz; (try k_sweep))))
  k_with "leaveF" => ((k_dflt (first | (refine' leaveF_ret ?k1 ?k2 ?_; (case k1 => k_asm); (case k2 => k_asm); k_whole) | (refine' leaveF_next ?k1 ?k2 ?_; (case k1 => k_asm); (case k2 => k_asm); k_whole)); intro kFlzz kNlzz; ground_anew kFlzz))
  k_with "ktr_room" => (((try dsimp only [depth_under_make, depth_under_kw, depth_in1, depth_deeper]); first | exact room1 (by assumption) (by decide) | exact room2 (by assumption) (by decide) | exact room0 (by assumption) | exact room3 (by assumption) (by decide) | exact room4 (by assumption) (by decide)))
  k_with "ktr_units" => (((try dsimp only [units_under_make, units_in1, units_deeper, Around.mark_units]); first | exact room1 (by assumption) (by decide) | exact room2 (by assumption) (by decide) | exact room0 (by assumption) | exact room3 (by assumption) (by decide) | exact room4 (by assumption) (by decide)))
  k_with "k_ne" => ((refine neN ?_; (try dsimp only); first | assumption | exact Ne.symm (by assumption) | exact Nat.ne_of_gt (by assumption) | exact Nat.ne_of_lt (by assumption) | exact neP1 (by assumption) | exact neP2 (by assumption) | exact neP3 (by assumption) | exact neP4 (by assumption) | exact neP5 (by assumption)))
  k_with "k_mem" => (first | assumption | exact List.Mem.head _ | (refine' List.Mem.tail _ ?_; k_mem))
  k_with "k_all" => (first | assumption | (refine all1 ?_ (by assumption); k_ne) | (refine all2 ?_ ?_ (by assumption) <;> k_ne) | (refine all3 ?_ ?_ ?_ (by assumption) <;> k_ne))
  k_with "execs cons" => (((with_reducible show wpAny _ _ _ _ _ (PySem.Shared.mk _ _ _ (_ + 1) _)); refine genToks ?_; intro tk9zz))
  k_with "eval Constant int" => ((refine constG ?_; intro t9zz tk9zz))
  k_with "ke_room" => (ktr_units)
  k_with "k_room" => (((try simp only [depth_under_make, depth_under_kw, depth_in1]); ktr_room))
  k_with "execs cons" => first | ((with_reducible show wpAny _ _ _ _ _ (PySem.Shared.mk _ _ _ (_ + 1) _)); refine genToks ?_; intro tk9) | (refine consQ ?_; intro q9)
  k_with "flowQ" => first | (refine flow_next ?_) | (refine flow_ret ?_)
  k_with "call ref" => (k_here; (try dsimp only [List.nil_append, List.cons_append]); (with_reducible show wpAny _ _ (call (Value.ref 415) [Value.ref _]) _ _ _); k_dflt (refine wpAny_call ?_; (refine' code_def ?k1 ?k2 ?k3 ?k4 ?k5 ?kA ?kF ?kK ?k6 ?k7 ?k8 ?k9 ?kB ?_ ?c2 ?c3 ?c4 ?c5; (case kA => exact rfl); (case kF => exact rfl); (case kK => exact rfl); (case k1 => k_asm); (case k2 => k_asm); (case k3 => k_asm); (case k4 => k_asm); (case k5 => k_asm); (case k6 => k_is); (case k7 => k_is); (case k8 => ktr_room); (case k9 => exact BindsTo.of_eq rfl); (case c5 => decide); (case kB => exact locs rfl); (case c2 => exact rfl); (case c3 => exact rfl); (case c4 => exact rfl); k_whole; intro g' L' h' FG' F' N' B' X' T'; (try dsimp only); (try k_lift B'); (try k_fold))))
  k_with "call ref" => (k_here; (try dsimp only [List.nil_append, List.cons_append]); (with_reducible show wpAny _ _ (call (Value.ref 422) [Value.ref _]) _ _ _); k_dflt (refine wpAny_call ?_; (refine' code_def ?k1 ?k2 ?k3 ?k4 ?k5 ?kA ?kF ?kK ?k6 ?k7 ?k8 ?k9 ?kB ?_ ?c2 ?c3 ?c4 ?c5; (case kA => exact rfl); (case kF => exact rfl); (case kK => exact rfl); (case k1 => k_asm); (case k2 => k_asm); (case k3 => k_asm); (case k4 => k_asm); (case k5 => k_asm); (case k6 => k_is); (case k7 => k_is); (case k8 => ktr_room); (case k9 => exact BindsTo.of_eq rfl); (case c5 => decide); (case kB => exact locs rfl); (case c2 => exact rfl); (case c3 => exact rfl); (case c4 => exact rfl); k_whole; intro g' L' h' FG' F' N' B' X' T'; (try dsimp only); (try k_lift B'); (try k_fold))))
  k_with "call ref" => (k_here; (try dsimp only [List.nil_append, List.cons_append]); (with_reducible show wpAny _ _ (call (Value.ref 401) [Value.ref _]) _ _ _); k_dflt (refine' useV (g := fun t => Value.int _ t) (pop_ok ?m1 ?m2 ?U ?hv ?hs) ?B ?F ?X ?N ?T ?hk ?hd ?hu ?_; (case B => k_asm); (case F => k_asm); (case X => k_asm); (case N => k_asm); (case T => k_asm); (case m1 => k_mem); (case m2 => k_mem); (case hk => exact rfl); (case hd => ktr_room); (case hu => ktr_units); (case U => k_upd); (case hv => first | assumption | exact IntsAre.nil | (apply ints_snoc; first | assumption | exact IntsAre.nil | (apply ints_snoc; first | assumption | exact IntsAre.nil))); (case hs => ((try simp only [List.length_append, List.length_cons, List.length_nil]); (first | lia | omega))); k_whole; intro t' h' tk' F' N'; (try k_sweep)))
  k_with "call ref" => (k_here; (try dsimp only [List.nil_append, List.cons_append]); (with_reducible show wpAny _ _ (call (Value.ref 394) [Value.ref _, Value.int _ _]) _ _ _); k_dflt (refine' useN (push_ok ?m1 ?m2 ?U ?hv ?hm ?hs) ?B ?F ?X ?N ?T ?hk ?hd ?hu ?_; (case B => k_asm); (case F => k_asm); (case X => k_asm); (case N => k_asm); (case T => k_asm); (case m1 => k_mem); (case m2 => k_mem); (case hk => exact rfl); (case hd => ktr_room); (case hu => ktr_units); (case U => k_upd); (case hv => first | assumption | exact IntsAre.nil | (apply ints_snoc; first | assumption | exact IntsAre.nil | (apply ints_snoc; first | assumption | exact IntsAre.nil))); (case hm => decide); (case hs => ((try simp only [List.length_append, List.length_cons, List.length_nil]); (first | lia | omega))); k_whole; intro h' tk' F' N'; (try k_sweep)))
  k_with "call ref" => (k_here; (try dsimp only [List.nil_append, List.cons_append]); (with_reducible show wpAny _ _ (call (Value.ref 408) [Value.ref _, Value.int _ _]) _ _ _); k_dflt (refine' useV (g := fun t => Value.int _ t) (peek_ok ?m1 ?m2 ?m3 ?hv ?hs ?h1 ?h2) ?B ?F ?X ?N ?T ?hk ?hd ?hu ?_; (case B => k_asm); (case F => k_asm); (case X => k_asm); (case N => k_asm); (case T => k_asm); (case m1 => k_mem); (case m2 => k_mem); (case hk => exact rfl); (case hd => ktr_room); (case hu => ktr_units); (case m3 => k_mem); (case hv => first | assumption | exact IntsAre.nil | (apply ints_snoc; first | assumption | exact IntsAre.nil | (apply ints_snoc; first | assumption | exact IntsAre.nil))); (case hs => ((try simp only [List.length_append, List.length_cons, List.length_nil]); (first | lia | omega))); (case h1 => ((try simp only [List.length_append, List.length_cons, List.length_nil]); (first | lia | omega))); (case h2 => ((try simp only [List.length_append, List.length_cons, List.length_nil]); (first | lia | omega))); k_whole; intro t' h' tk' F' N'; (try k_sweep)))
  k_with "call ref" => (k_here; (try dsimp only [List.nil_append, List.cons_append]); (with_reducible show wpAny _ _ (call (Value.ref 401) [Value.ref _]) _ _ _); k_dflt (refine' useE (pop_bad ?m1 ?m2 ?m3 IntsAre.nil) ?B ?F ?X ?N ?T ?hk ?hd ?hu ?_; (case B => k_asm); (case F => k_asm); (case X => k_asm); (case N => k_asm); (case T => k_asm); (case m1 => k_mem); (case m2 => k_mem); (case m3 => k_mem); (case hk => exact rfl); (case hd => ktr_room); (case hu => ktr_units); k_whole; intro G' e' t' x' h' tk' F' R' U'))
  k_with "call ref" => (k_here; (try dsimp only [List.nil_append, List.cons_append]); (with_reducible show wpAny _ _ (call (Value.ref 394) [Value.ref _, Value.int _ _]) _ _ _); k_dflt (refine' useE (push_bad ?m1 ?m2 ?m3 ?hv ?hm ?hs ?h2) ?B ?F ?X ?N ?T ?hk ?hd ?hu ?_; (case B => k_asm); (case F => k_asm); (case X => k_asm); (case N => k_asm); (case T => k_asm); (case m1 => k_mem); (case m2 => k_mem); (case m3 => k_mem); (case hv => first | assumption | exact IntsAre.nil | (apply ints_snoc; assumption)); (case hm => decide); (case hs => ((try simp only [List.length_append, List.length_cons, List.length_nil]); (first | lia | omega))); (case h2 => ((try simp only [List.length_append, List.length_cons, List.length_nil]); (first | lia | omega))); (case hk => exact rfl); (case hd => ktr_room); (case hu => ktr_units); k_whole; intro G' e' t' x' h' tk' F' R' U'))
  k_with "call ref" => (k_here; (try dsimp only [List.nil_append, List.cons_append]); (with_reducible show wpAny _ _ (call (Value.ref 408) [Value.ref _, Value.int _ _]) _ _ _); k_dflt (refine' useE (peek_bad ?m1 ?m2 ?m3 ?hv ?hs ?h1 ?h2) ?B ?F ?X ?N ?T ?hk ?hd ?hu ?_; (case B => k_asm); (case F => k_asm); (case X => k_asm); (case N => k_asm); (case T => k_asm); (case m1 => k_mem); (case m2 => k_mem); (case m3 => k_mem); (case hv => first | assumption | exact IntsAre.nil | (apply ints_snoc; assumption)); (case hs => ((try simp only [List.length_append, List.length_cons, List.length_nil]); (first | lia | omega))); (case h1 => ((try simp only [List.length_append, List.length_cons, List.length_nil]); (first | lia | omega))); (case h2 => (first | lia | omega)); (case hk => exact rfl); (case hd => ktr_room); (case hu => ktr_units); k_whole; intro G' e' t' x' h' tk' F' R' U'))
  k_with "call ref" => (k_here; (try dsimp only [List.nil_append, List.cons_append]); (with_reducible show wpAny _ _ (call (Value.ref 74) [Value.int _ _]) _ _ _); k_dflt (refine' useC (wrap32_c _ _ _) ?B ?F ?X ?N ?T ?hk ?hp ?hd ?hu ?_; (case B => k_asm); (case F => k_asm); (case X => k_asm); (case N => k_asm); (case T => k_asm); (case hk => exact rfl); (case hp => trivial); (case hd => ktr_room); (case hu => ktr_units); k_whole; intro t' h' tk' F' N'; (try k_sweep)))
  k_with "call ref" => (k_here; (try dsimp only [List.nil_append, List.cons_append]); (with_reducible show wpAny _ _ (call (Value.ref 81) [Value.int _ _]) _ _ _); k_dflt (refine' useC (floor6_c _ _ _) ?B ?F ?X ?N ?T ?hk ?hp ?hd ?hu ?_; (case B => k_asm); (case F => k_asm); (case X => k_asm); (case N => k_asm); (case T => k_asm); (case hk => exact rfl); (case hp => (first | lia | omega)); (case hd => ktr_room); (case hu => ktr_units); k_whole; intro t' h' tk' F' N'; (try k_sweep)))
  k_with "call ref" => (k_here; (try dsimp only [List.nil_append, List.cons_append]); (with_reducible show wpAny _ _ (call (Value.ref 88) [Value.int _ _]) _ _ _); k_dflt (refine' useC (ceiling6_c _ _ _) ?B ?F ?X ?N ?T ?hk ?hp ?hd ?hu ?_; (case B => k_asm); (case F => k_asm); (case X => k_asm); (case N => k_asm); (case T => k_asm); (case hk => exact rfl); (case hp => (first | lia | omega)); (case hd => ktr_room); (case hu => ktr_units); k_whole; intro t' h' tk' F' N'; (try k_sweep)))
  k_with "call ref" => (k_here; (try dsimp only [List.nil_append, List.cons_append]); (with_reducible show wpAny _ _ (call (Value.ref 198) [Value.int _ _, Value.int _ _, Value.int _ _]) _ _ _); k_dflt (refine' useC (compared_c _ _ _ _ _ _ _) ?B ?F ?X ?N ?T ?hk ?hp ?hd ?hu ?_; (case B => k_asm); (case F => k_asm); (case X => k_asm); (case N => k_asm); (case T => k_asm); (case hk => exact rfl); (case hp => trivial); (case hd => ktr_room); (case hu => ktr_units); k_whole; intro t' h' tk' F' N'; (try k_sweep)))
  k_with "call ref" => (k_here; (try dsimp only [List.nil_append, List.cons_append]); (with_reducible show wpAny _ _ (call (Value.ref 226) [Value.int _ _, Value.int _ _, Value.int _ _]) _ _ _); k_dflt (refine' useV (g := fun t => Value.int _ t) (two_c _ _ _ _ _ _ _ ?h1 ?h2 ?h3) ?B ?F ?X ?N ?T ?hk ?hd ?hu ?_; (case B => k_asm); (case F => k_asm); (case X => k_asm); (case N => k_asm); (case T => k_asm); (case h1 => (first | lia | omega)); (case h2 => (first | lia | omega)); (case h3 => (first | lia | omega)); (case hk => exact rfl); (case hd => ktr_room); (case hu => ktr_units); k_whole; intro t' h' tk' F' N'; (try k_sweep)))
  k_with "call ref" => (k_here; (try dsimp only [List.nil_append, List.cons_append]); (with_reducible show wpAny _ _ (call (Value.ref 226) [Value.int 98 _, Value.int _ _, Value.int 0 _]) _ _ _); k_dflt (refine' useE (two_bad _ _ _ _ _) ?B ?F ?X ?N ?T ?hk ?hd ?hu ?_; (case B => k_asm); (case F => k_asm); (case X => k_asm); (case N => k_asm); (case T => k_asm); (case hk => exact rfl); (case hd => ktr_room); (case hu => ktr_units); k_whole; intro G' e' t' x' h' tk' F' R' U'))
  k_with "leaving ref" => (k_here; (rename RaisedS _ _ _ _ _ _ _ _ _ => rs); k_dflt (refine' leave_onX ?K rfl ?F rs ?U ?_; (case K => k_asm); (case F => k_asm); (case U => k_asm); k_whole; intro h' R' U'))
  k_with "eval Call Attribute" => first
    | ((with_reducible show wpAny _ _ (eval (Expr.Call (Expr.Attribute (Expr.Attribute _ _ _) (Str.ofString "pop") _) [] [] _) _) _ _ _); k_dflt (refine' popE ?B ?F ?X ?N ?T ?hm ?mW ?mWD ?mST ?mSD ?U ?hv ?hs ?hk ?hx ?hd ?hu ?he ?_; (case B => k_asm); (case F => k_asm); (case X => k_asm); (case N => k_asm); (case T => k_asm); (case hm => exact rfl); (case mW => k_mem); (case mWD => k_mem); (case mST => k_mem); (case mSD => k_mem); (case U => k_upd); (case hv => first | assumption | exact IntsAre.nil | (apply ints_snoc; first | assumption | exact IntsAre.nil | (apply ints_snoc; first | assumption | exact IntsAre.nil))); (case hs => ((try simp only [List.length_append, List.length_cons, List.length_nil]); (first | lia | omega))); (case hk => exact rfl); (case hx => exact rfl); (case hd => ktr_room); (case hu => ktr_units); (case he => exact rfl); k_whole; intro t' h' tk' F' N'; (try k_sweep)))
    | ((with_reducible show wpAny _ _ (eval (Expr.Call (Expr.Attribute (Expr.Attribute _ _ _) (Str.ofString "pop") _) [] [] _) _) _ _ _); k_dflt (refine' popX ?B ?F ?X ?N ?T ?hm ?mW ?mWD ?mST ?mSD ?mN ?hk ?hx ?hd ?hu ?he ?_; (case B => k_asm); (case F => k_asm); (case X => k_asm); (case N => k_asm); (case T => k_asm); (case hm => exact rfl); (case mW => k_mem); (case mWD => k_mem); (case mST => k_mem); (case mSD => k_mem); (case mN => k_mem); (case hk => exact rfl); (case hx => exact rfl); (case hd => ktr_room); (case hu => ktr_units); (case he => exact rfl); k_whole; intro G' e' t' x' h' tk' F' R' U'))
    | ((with_reducible show wpAny _ _ (eval (Expr.Call (Expr.Attribute (Expr.Attribute _ _ _) (Str.ofString "push") _) [Expr.Name _ _] [] _) _) _ _ _); k_dflt (refine' pushN ?B ?F ?X ?N ?T ?hm ?mW ?mWD ?mST ?mSD ?U ?hv ?hs ?hm2 ?hx2 ?hb ?hk ?hx ?hd ?hu ?he ?_; (case B => k_asm); (case F => k_asm); (case X => k_asm); (case N => k_asm); (case T => k_asm); (case hm => exact rfl); (case mW => k_mem); (case mWD => k_mem); (case mST => k_mem); (case mSD => k_mem); (case hm2 => exact rfl); (case U => k_upd); (case hv => first | assumption | exact IntsAre.nil | (apply ints_snoc; first | assumption | exact IntsAre.nil | (apply ints_snoc; first | assumption | exact IntsAre.nil))); (case hs => ((try simp only [List.length_append, List.length_cons, List.length_nil]); (first | lia | omega))); (case hx2 => exact rfl); (case hb => decide); (case hk => exact rfl); (case hx => exact rfl); (case hd => ktr_room); (case hu => ktr_units); (case he => exact rfl); k_whole; intro h' tk' F' N'; (try k_sweep)))
  trivial
theorem cutForD {M : Model} {A : Around} {E : Value → Shared → Prop} {env : Env} {Q : Flow → Shared → Prop} {s : Shared} {t i : PySem.Expr} {b o : List Stmt} {p : Pos} (P : Model → Around → Env → List Stmt → Prop) (hP : P M A env b) (k : P M A env b → wpAny M A (exec (.For t i b o p) env) Q E s) : wpAny M A (exec (.For t i b o p) env) Q E s := k hP
theorem del_any (c : Int) (hcc : 115 ≤ c ∧ c ≤ 117) (n : Int) (us vs cvs : List Value) (xs9 : List Int) (ns ns' : List Int) (p : Int) (tn tpl0 tar0 tpl1 tar1 : Tok) (pl0 ar0 pl1 ar1 : Int) (xs : List Int) (hv3 : IntsAre vs xs) (hv9 : IntsAre us xs9) (hl9 : us.length ≤ 60) (hlv : vs.length ≤ 20) (hns : ns.length = 3) (hp : 0 ≤ p ∧ p < 2^20) (hcv : IntsAre cvs ns) (hp0 : 0 ≤ pl0 ∧ pl0 < ns.length) (ha0 : 0 ≤ ar0 ∧ ar0 < 2^20) (hp1 : 0 ≤ pl1 ∧ pl1 < ns.length) (ha1 : 0 ≤ ar1 ∧ ar1 < 2^20)
    (hv5 : IntsAre (vs ++ [Value.int ar1 tar1] ++ [Value.int pl1 tpl1]) (xs ++ [ar1] ++ [pl1]))
    (hus : (n = 1 ∧ us = vs ++ [Value.int ar0 tar0] ++ [Value.int pl0 tpl0] ∧ ns' = ns.set pl0.toNat (ns.getD pl0.toNat 0 + deltaS p ar0 (16 * (c - 115)))) ∨ (n = 2 ∧ us = vs ++ [Value.int ar1 tar1] ++ [Value.int pl1 tpl1] ++ [Value.int ar0 tar0] ++ [Value.int pl0 tpl0] ∧ ns' = (ns.set pl0.toNat (ns.getD pl0.toNat 0 + deltaS p ar0 (16 * (c - 115)))).set pl1.toNat ((ns.set pl0.toNat (ns.getD pl0.toNat 0 + deltaS p ar0 (16 * (c - 115)))).getD pl1.toNat 0 + deltaS p ar1 (16 * (c - 115))))) : DelW w mean mg mb c (us ++ [Value.int n tn]) vs cvs ns' p := by
  have hcl := hcv.length
  intro a N GS GSD CV kc k gO tc tp R dp un gd cn cs ad ccd cl outer A₀ base h₀ L m h gn dr tk os Q E mW mWD mWX mST mSD mGS mGSD oN oC pNC g aB aF aX aN aT hk9 hd9 hu9 hret
  k_dflt cell_enter
  k_with "call ref" => ((with_reducible show wpAny _ _ (call (Value.ref 296) _) _ _ _); (try dsimp only [List.nil_append, List.cons_append]); (k_dflt (refine' useV (g := fun t => Value.int _ t) (delta_c a GS GSD gO CV p tp _ _ _ _ _ ?m1 ?m2 ?m3 ?m4 g ?n1 ?n2 hp) ?B ?F ?X ?N ?T ?hk ?hd ?hu ?_; (case B => k_asm); (case F => k_asm); (case X => k_asm); (case N => k_asm); (case T => k_asm); (case m1 => k_mem); (case m2 => k_mem); (case m3 => k_mem); (case m4 => k_mem); (case n1 => (first | lia | omega)); (case n2 => (first | lia | omega)); (case hk => exact rfl); (case hd => ktr_room); (case hu => ktr_units); k_whole; intro t' h' tk' F' N'; (try k_sweep))))
  k_with "call ref" => first
    | ((with_reducible show wpAny _ _ (call (Value.ref 459) _) _ _ _); (try dsimp only [List.nil_append, List.cons_append]); (k_dflt (refine' useV (g := fun t => Value.int _ t) (cvtv_c _ _ ?m1 ?m2 ?m3 ?hv ?hn ?hi) ?B ?F ?X ?N ?T ?hk ?hd ?hu ?_; (case B => k_asm); (case F => k_asm); (case X => k_asm); (case N => k_asm); (case T => k_asm); (case m1 => k_mem); (case m2 => k_mem); (case m3 => k_mem); (case hv => assumption); (case hn => first | assumption | (rw [List.length_set]; assumption)); (case hi => first | assumption | (rw [List.length_set]; assumption)); (case hk => exact rfl); (case hd => ktr_room); (case hu => ktr_units); k_whole; intro t' h' tk' F' N'; (try k_sweep))))
    | ((with_reducible show wpAny _ _ (call (Value.ref 466) _) _ _ _); (try dsimp only [List.nil_append, List.cons_append]); (k_dflt (refine' usePut ?m1 ?m2 ?U ?hv ?hn ?hi ?B ?F ?X ?N ?T ?hk ?hd ?hu ?_; (case B => k_asm); (case F => k_asm); (case X => k_asm); (case N => k_asm); (case T => k_asm); (case m1 => k_mem); (case m2 => k_mem); (case U => k_updF); (case hv => assumption); (case hn => first | assumption | (rw [List.length_set]; assumption)); (case hi => first | assumption | (rw [List.length_set]; assumption)); (case hk => exact rfl); (case hd => ktr_room); (case hu => ktr_units); k_whole; intro c9 h9 tk9 i9 F9 N9; (try dsimp only at N9); (try k_sweep))))
  k_with "UnrEnd" => (k_dflt ((rename News _ _ _ _ => kN); (refine UnrEnd.intro (by assumption) kN _ (fun p hp => List.mem_cons_of_mem _ hp) (off2 (by assumption)) ?_)))
  k_with "eval Name" => ((have hS9 := hwk9); clear hS9; k_dflt (refine' nameX_L ?nF ?nv ?_ rfl rfl (by decide); (case nF => k_asm); (case nv => first | exact rfl | exact hwk9 | exact hbs9)))
  k_with "eval Call Attribute" => ((have hS9 := hwk9); clear hS9; ((with_reducible show wpAny _ _ (eval (Expr.Call (Expr.Attribute (Expr.Attribute _ _ _) (Str.ofString "pop") _) [] [] _) _) _ _ _); k_dflt (refine' popE ?B ?F ?X ?N ?T ?hm ?mW ?mWD ?mST ?mSD ?U ?hv ?hs ?hk ?hx ?hd ?hu ?he ?_; (case B => k_asm); (case F => k_asm); (case X => k_asm); (case N => k_asm); (case T => k_asm); (case hm => exact hwk9); (case mW => k_mem); (case mWD => k_mem); (case mST => k_mem); (case mSD => k_mem); (case U => k_upd); (case hv => first | assumption | exact IntsAre.nil | (apply ints_snoc; first | assumption | exact IntsAre.nil | (apply ints_snoc; first | assumption | exact IntsAre.nil))); (case hs => ((try simp only [List.length_append, List.length_cons, List.length_nil]); (first | lia | omega))); (case hk => exact rfl); (case hx => exact rfl); (case hd => ktr_room); (case hu => ktr_units); (case he => exact rfl); k_whole; intro t' h' tk' F' N'; (try k_sweep))))
  k_with "exec For Name Call cons nil" => ((fail_if_success (have hT9 := hT1)); (k_dflt (refine cutForD (fun M A env b => ∀ (I1 : Nat) (oI : Obj) (vs1 : List Value) (xs1 : List Int) (pl ar : Int) (tpl tar : Tok) (k1 kc1 : Nat) (cvs1 : List Value) (ns1 : List Int) (tb : Tok) (mm : Str → Option Value) (hh : Heap) (gn1 : Array GenState) (dr1 : Drawn) (kt : Nat) (os1 : OsState) (Q1 : Flow → Shared → Prop) (E1 : Value → Shared → Prop), IntsAre vs1 xs1 → vs1.length ≤ 60 → IntsAre cvs1 ns1 → ns1.length = 3 → (0 ≤ pl ∧ pl < ns1.length) → (0 ≤ ar ∧ ar < 2^20) → I1 ≠ N → I1 ≠ CV → mm (Str.ofString "work") = some (.ref a.W) → mm (Str.ofString "base") = some (.int (16 * (c - 115)) tb) → Fr g' L' hh mm → News g' L' hh ((I1, oI) :: (N, listOf (vs1 ++ [Value.int ar tar] ++ [Value.int pl tpl]).toArray k1) :: (CV, listOf cvs1.toArray kc1) :: R) → (∀ (cvs2 : List Value) (h' : Heap) (tk' : Nat) (t1 t2 : Tok) (k2 kc2 : Nat), IntsAre cvs2 (ns1.set pl.toNat (ns1.getD pl.toNat 0 + deltaS p ar (16 * (c - 115)))) → Fr g' L' h' (fun y => if y = Str.ofString "argument" then some (.int ar t1) else (fun y => if y = Str.ofString "place" then some (.int pl t2) else mm y) y) → News g' L' h' ((I1, oI) :: (N, listOf vs1.toArray k2) :: (CV, listOf cvs2.toArray kc2) :: R) → Q1 .next ⟨h', gn1, dr1, tk', os1⟩) → wpAny M A (execs b env) Q1 E1 ⟨hh, gn1, dr1, kt, os1⟩) ?cP ?cK)); rotate_left; (k_dflt (intro hT1)); rotate_left; (k_dflt (intro I1 oI vs1 xs1 pl ar tpl tar k1 kc1 cvs1 ns1 tb mm hh gn1 dr1 kt os1 Q1 E1 hv9 hl9 hc9 hn9 hpl9 har9 q19 q29 hwk9 hbs9 hF9 hN9 retT)))
  k_with "execs cons" => ((have hS9 := hT1); clear hS9; (with_reducible show wpAny _ _ (execs (Stmt.Assign [PySem.Expr.Tuple _ _ _] _ _ :: _) _) _ _ _); k_dflt (refine' hT1 _ _ _ _ _ _ _ _ _ _ _ _ _ _ _ _ _ _ _ ?b1 ?b2 ?b3 ?b4 ?b5 ?b6 ?q1 ?q2 ?q3 ?q4 ?bF ?bN ?_; (case bF => k_asm); (case bN => k_asm); (case b1 => first | exact hv3 | exact hv5); (case b2 => first | assumption | omega); (case b3 => assumption); (case b4 => first | assumption | (rw [List.length_set]; assumption)); (case b5 => first | assumption | (rw [List.length_set]; assumption)); (case b6 => assumption); (case q1 => k_ne); (case q2 => k_ne); (case q3 => exact rfl); (case q4 => exact rfl); k_whole; intro cvs9 h9 tk9 t9 u9 k9 kc9 i9 F9 N9; (try k_sweep)))
  k_with "pyIter ref" => ((rename IsRange _ _ _ _ _ _ _ _ => rgX); k_dflt (rcases hus with ⟨rfl, rfl, rfl⟩ | ⟨rfl, rfl, rfl⟩ <;> clear aN aF hv9))
  k_steps
  all_goals (
    rename News _ _ _ _ => kN
    rename IntsAre _ _ => kI
    exact hret _ _ _ _ (by k_asm) (kst_newsOf kN (by intro p hp; first | exact hp | exact List.Mem.tail _ hp | exact List.Mem.tail _ (List.Mem.tail _ hp) | exact List.Mem.tail _ (List.Mem.tail _ (List.Mem.tail _ hp)))) kI)
theorem deltac1 (xs : List Int) (hl : xs.length ≤ 3) (c : Int) (hcc : 115 ≤ c ∧ c ≤ 117) (tc : Tok) (a : WA) (N : Nat) (vs : List Value) (k STO GS GSD CV kc : Nat) (oS gO : Obj) (cvs : List Value) (ns : List Int) (p : Int) (tp : Tok) (hns : ns.length = 3) (hp : 0 ≤ p ∧ p < 2^20) (hcv : IntsAre cvs ns) (rest0 : List (Addr × Obj)) (pl0 ar0 : Int) (hp0 : 0 ≤ pl0 ∧ pl0 < ns.length) (ha0 : 0 ≤ ar0 ∧ ar0 < 2^20)
    (hv : IntsAre vs (xs ++ [ar0] ++ [pl0] ++ [1])) (hc : Chain a N ((STO, oS) :: (GS, instObj 369 GSD) :: (GSD, gO) :: (CV, listOf cvs.toArray kc) :: rest0)) (hg : a.gs = .ref GS) (hcva : a.cv = .ref CV) (hpp : a.pp = .int p tp) (g : GsOk gO) (w0 : CV < a.WD) (w1 : a.WD < a.W) (w2 : a.W < GSD) (w3 : GSD < GS) (w4 : GS < a.SD) (w7 : N < STO) (hr : ∀ p ∈ rest0, p.1 ≠ CV) :
    OpR w mean mg mb 303 c tc a N vs k ((STO, oS) :: (GS, instObj 369 GSD) :: (GSD, gO) :: (CV, listOf cvs.toArray kc) :: rest0) xs (fun rest' => ∃ cvs', rest' = (STO, oS) :: (GS, instObj 369 GSD) :: (GSD, gO) :: (CV, listOf cvs'.toArray kc) :: rest0 ∧ IntsAre cvs' (ns.set pl0.toNat (ns.getD pl0.toNat 0 + deltaS p ar0 (16 * (c - 115))))) := by
  obtain ⟨vs, tn, rfl, hv1⟩ := ints_inv hv
  obtain ⟨vs, tpl0, rfl, hv2⟩ := ints_inv hv1
  obtain ⟨vs, tar0, rfl, hv3⟩ := ints_inv hv2
  have hl2 := hv3.length
  exact delta_intro (del_any c hcc 1 _ vs cvs _ ns _ p tn tpl0 tar0 tpl0 tar0 pl0 ar0 pl0 ar0 xs hv3 hv1 (by simp only [List.length_append, List.length_cons, List.length_nil]; omega) (by omega) hns hp hcv hp0 ha0 hp0 ha0 hv1 (Or.inl ⟨rfl, rfl, rfl⟩)) hv3 hc hg hcva hpp g w0 w1 w2 w3 w4 w7 hr
theorem deltac2 (xs : List Int) (hl : xs.length ≤ 3) (c : Int) (hcc : 115 ≤ c ∧ c ≤ 117) (tc : Tok) (a : WA) (N : Nat) (vs : List Value) (k STO GS GSD CV kc : Nat) (oS gO : Obj) (cvs : List Value) (ns : List Int) (p : Int) (tp : Tok) (hns : ns.length = 3) (hp : 0 ≤ p ∧ p < 2^20) (hcv : IntsAre cvs ns) (rest0 : List (Addr × Obj)) (pl0 ar0 : Int) (hp0 : 0 ≤ pl0 ∧ pl0 < ns.length) (ha0 : 0 ≤ ar0 ∧ ar0 < 2^20) (pl1 ar1 : Int) (hp1 : 0 ≤ pl1 ∧ pl1 < ns.length) (ha1 : 0 ≤ ar1 ∧ ar1 < 2^20)
    (hv : IntsAre vs (xs ++ [ar1] ++ [pl1] ++ [ar0] ++ [pl0] ++ [2])) (hc : Chain a N ((STO, oS) :: (GS, instObj 369 GSD) :: (GSD, gO) :: (CV, listOf cvs.toArray kc) :: rest0)) (hg : a.gs = .ref GS) (hcva : a.cv = .ref CV) (hpp : a.pp = .int p tp) (g : GsOk gO) (w0 : CV < a.WD) (w1 : a.WD < a.W) (w2 : a.W < GSD) (w3 : GSD < GS) (w4 : GS < a.SD) (w7 : N < STO) (hr : ∀ p ∈ rest0, p.1 ≠ CV) :
    OpR w mean mg mb 303 c tc a N vs k ((STO, oS) :: (GS, instObj 369 GSD) :: (GSD, gO) :: (CV, listOf cvs.toArray kc) :: rest0) xs (fun rest' => ∃ cvs', rest' = (STO, oS) :: (GS, instObj 369 GSD) :: (GSD, gO) :: (CV, listOf cvs'.toArray kc) :: rest0 ∧ IntsAre cvs' ((ns.set pl0.toNat (ns.getD pl0.toNat 0 + deltaS p ar0 (16 * (c - 115)))).set pl1.toNat ((ns.set pl0.toNat (ns.getD pl0.toNat 0 + deltaS p ar0 (16 * (c - 115)))).getD pl1.toNat 0 + deltaS p ar1 (16 * (c - 115))))) := by
  obtain ⟨vs, tn, rfl, hv1⟩ := ints_inv hv
  obtain ⟨vs, tpl0, rfl, hv2⟩ := ints_inv hv1
  obtain ⟨vs, tar0, rfl, hv3⟩ := ints_inv hv2
  obtain ⟨vs, tpl1, rfl, hv4⟩ := ints_inv hv3
  obtain ⟨vs, tar1, rfl, hv5⟩ := ints_inv hv4
  have hl2 := hv5.length
  exact delta_intro (del_any c hcc 2 _ vs cvs _ ns _ p tn tpl0 tar0 tpl1 tar1 pl0 ar0 pl1 ar1 xs hv5 hv1 (by simp only [List.length_append, List.length_cons, List.length_nil]; omega) (by omega) hns hp hcv hp0 ha0 hp1 ha1 hv3 (Or.inr ⟨rfl, rfl, rfl⟩)) hv5 hc hg hcva hpp g w0 w1 w2 w3 w4 w7 hr
end
end

section
open PySem PySem.W PyProof.Rows PySem.Calls PySem.Spec
theorem kwTake : True := by
  k_with_none
  w_top off
  trivial
theorem kwTake_1 : True := by
  k_with_none
  k_with "cell_enter" => ((refine' enterM ?k1 ?k2 ?k3 ?k4 ?k5 ?kA ?kF ?kK ?k6 ?k7 ?k8 ?k9 ?kB ?_ ?c2 ?c3 ?c4 ?c5; (case kA => exact rfl); (case kF => exact rfl); (case kK => assumption); (case k1 => k_asm); (case k2 => k_asm); (case k3 => k_asm); (case k4 => k_asm); (case k5 => k_asm); (case k6 => k_is); (case k7 => k_is); (case k8 => first | ktr_room | k_room); (case k9 => first | exact BindsTo.of_eq rfl | exact binds_K (by k_in) rfl (by k_is) rfl rfl rfl); (case c5 => decide); (case kB => exact locs rfl); (case c2 => exact rfl); (case c3 => exact rfl); (case c4 => exact rfl); k_whole; intro mqzz gqzz Lqzz hqzz tqzz FGqzz Fqzz Nqzz Bqzz Xqzz Tqzz qkqzz ekqzz))
  k_with "storeName" => ((k_dflt (refine' storeL ?F ?N ?a ?b ?_; (case F => k_asm); (case N => k_asm); (case a => rfl); (case b => rfl); k_whole; intro mszz hszz tszz Fszz Nszz; (try k_sweep))))
  k_with "leaveF" => ((k_dflt (first | (refine' leaveF_ret ?k1 ?k2 ?_; (case k1 => k_asm); (case k2 => k_asm); k_whole) | (refine' leaveF_next ?k1 ?k2 ?_; (case k1 => k_asm); (case k2 => k_asm); k_whole)); intro kFlzz kNlzz; ground_anew kFlzz))
  k_with "ktr_room" => (((try dsimp only [depth_under_make, depth_under_kw, depth_in1, depth_deeper]); first | exact room1 (by assumption) (by decide) | exact room2 (by assumption) (by decide) | exact room0 (by assumption) | exact room3 (by assumption) (by decide) | exact room4 (by assumption) (by decide)))
  k_with "ktr_units" => (((try dsimp only [units_under_make, units_in1, units_deeper, Around.mark_units]); first | exact room1 (by assumption) (by decide) | exact room2 (by assumption) (by decide) | exact room0 (by assumption) | exact room3 (by assumption) (by decide) | exact room4 (by assumption) (by decide)))
  k_with "k_ne" => ((refine neN ?_; (try dsimp only); first | assumption | exact Ne.symm (by assumption) | exact Nat.ne_of_gt (by assumption) | exact Nat.ne_of_lt (by assumption) | exact neP1 (by assumption) | exact neP2 (by assumption) | exact neP3 (by assumption) | exact neP4 (by assumption) | exact neP5 (by assumption)))
  trivial
theorem take_ok (s0 y b : Int) : PySem.IntMulOk ([s0, Int.fmod y 2147483647].getD (Int.toNat 1) 0) b := by
  have e : [s0, Int.fmod y 2147483647].getD (Int.toNat 1) 0 = Int.fmod y 2147483647 := rfl
  rw [e, Int.fmod_eq_emod_of_nonneg _ (by decide)]
  exact PySem.IntMulOk.of_left (PySem.intBits_le_64 (by omega) (by omega))
theorem fmod_bd (x top : Int) (h : 1 ≤ top) : 0 ≤ Int.fmod x top ∧ Int.fmod x top < top := by
  rw [Int.fmod_eq_emod_of_nonneg _ (by omega)]
  exact ⟨Int.emod_nonneg _ (by omega), Int.emod_lt_of_pos _ (by omega)⟩
theorem fdiv_nn (x top : Int) (h0 : 0 ≤ x) (h : 1 ≤ top) : 0 ≤ Int.fdiv x top := by
  rw [Int.fdiv_eq_ediv_of_nonneg _ (by omega)]
  exact Int.ediv_nonneg h0 (by omega)
noncomputable abbrev srcO (s0 s1 : Int) (t0 t1 k : Nat) : Obj := listOf [Value.int s0 t0, Value.int s1 t1].toArray k
section
variable {w : World} {mean : ExcName → Option Value} {mg mb : Str → Option Value}
theorem kwTake_2 : True := by
  k_with_none
  k_with "cell_enter" => ((refine' enterM ?k1 ?k2 ?k3 ?k4 ?k5 ?kA ?kF ?kK ?k6 ?k7 ?k8 ?k9 ?kB ?_ ?c2 ?c3 ?c4 ?c5; (case kA => exact rfl); (case kF => exact rfl); (case kK => assumption); (case k1 => k_asm); (case k2 => k_asm); (case k3 => k_asm); (case k4 => k_asm); (case k5 => k_asm); (case k6 => k_is); (case k7 => k_is); (case k8 => first | ktr_room | k_room); (case k9 => first | exact BindsTo.of_eq rfl | exact binds_K (by k_in) rfl (by k_is) rfl rfl rfl); (case c5 => decide); (case kB => exact locs rfl); (case c2 => exact rfl); (case c3 => exact rfl); (case c4 => exact rfl); k_whole; intro mqzz gqzz Lqzz hqzz tqzz FGqzz Fqzz Nqzz Bqzz Xqzz Tqzz qkqzz ekqzz))
  k_with "storeName" => ((k_dflt (refine' storeL ?F ?N ?a ?b ?_; (case F => k_asm); (case N => k_asm); (case a => rfl); (case b => rfl); k_whole; intro mszz hszz tszz Fszz Nszz; (try k_sweep))))
  k_with "leaveF" => ((k_dflt (first | (refine' leaveF_ret ?k1 ?k2 ?_; (case k1 => k_asm); (case k2 => k_asm); k_whole) | (refine' leaveF_next ?k1 ?k2 ?_; (case k1 => k_asm); (case k2 => k_asm); k_whole)); intro kFlzz kNlzz; ground_anew kFlzz))
  k_with "ktr_room" => (((try dsimp only [depth_under_make, depth_under_kw, depth_in1, depth_deeper]); first | exact room1 (by assumption) (by decide) | exact room2 (by assumption) (by decide) | exact room0 (by assumption) | exact room3 (by assumption) (by decide) | exact room4 (by assumption) (by decide)))
  k_with "ktr_units" => (((try dsimp only [units_under_make, units_in1, units_deeper, Around.mark_units]); first | exact room1 (by assumption) (by decide) | exact room2 (by assumption) (by decide) | exact room0 (by assumption) | exact room3 (by assumption) (by decide) | exact room4 (by assumption) (by decide)))
  k_with "k_ne" => ((refine neN ?_; (try dsimp only); first | assumption | exact Ne.symm (by assumption) | exact Nat.ne_of_gt (by assumption) | exact Nat.ne_of_lt (by assumption) | exact neP1 (by assumption) | exact neP2 (by assumption) | exact neP3 (by assumption) | exact neP4 (by assumption) | exact neP5 (by assumption)))
  k_with "k_all" => (assumption)
  k_with "execs cons" => (((with_reducible show wpAny _ _ _ _ _ (PySem.Shared.mk _ _ _ (_ + 1) _)); refine genToks ?_; intro tk9zz))
  k_with "eval Constant int" => ((refine constG ?_; intro t9zz tk9zz))
  k_with "ke_room" => (ktr_units)
  k_with "k_room" => (((try simp only [depth_under_make, depth_under_kw, depth_in1]); ktr_room))
  trivial
theorem CbM.pre {f : Addr} {dd uu : Nat} {news news' : List (Addr × Obj)} {vs : List Value} {Post : List (Addr × Obj) → Value → Prop} (c : CbM w mean mg mb f dd uu news vs Post) (h : ∀ p ∈ news, p ∈ news') : CbM w mean mg mb f dd uu news' vs Post := by
  intro dp un gd cn cs a ccd cl outer A₀ base h₀ L m s Q E B F X N T hk hd' hu ret
  exact c dp un gd cn cs a ccd cl outer A₀ base h₀ L m s Q E B F X (kst_newsOf N h) T hk hd' hu ret
theorem take_c (S : Nat) (s0 s1 : Int) (t0 t1 k : Nat) (h0 : 0 ≤ s0) (h1 : 0 ≤ s1 ∧ s1 < 2147483647) (top : Int) (tt : Tok) (ht : 1 ≤ top ∧ top < 1000) (news : List (Addr × Obj)) (hS : ∀ p ∈ news, p.1 ≠ S) :
    CbM w mean mg mb 494 30 1000 ((S, srcO s0 s1 t0 t1 k) :: news) [.ref S, .int top tt] (fun n' r => ∃ (f : Int) (t : Tok) (s0' s1' : Int) (t0' t1' k' : Nat), r = .int f t ∧ 0 ≤ f ∧ f < top ∧ 0 ≤ s0' ∧ (0 ≤ s1' ∧ s1' < 2147483647) ∧ n' = (S, srcO s0' s1' t0' t1' k') :: news) := by
  refine CbM_mk ?_; intro dpY unY gdY cnY csY acY ccY clY ouY a0Y baY h0Y LY mY shY sgY sdY skY soY QY EY aB aF aX aN aT akY adY auY hret
  dsimp only [srcO] at aN
  k_dflt cell_enter
  k_with_none
  k_with "cell_enter" => ((refine' enterM ?k1 ?k2 ?k3 ?k4 ?k5 ?kA ?kF ?kK ?k6 ?k7 ?k8 ?k9 ?kB ?_ ?c2 ?c3 ?c4 ?c5; (case kA => exact rfl); (case kF => exact rfl); (case kK => assumption); (case k1 => k_asm); (case k2 => k_asm); (case k3 => k_asm); (case k4 => k_asm); (case k5 => k_asm); (case k6 => k_is); (case k7 => k_is); (case k8 => first | ktr_room | k_room); (case k9 => first | exact BindsTo.of_eq rfl | exact binds_K (by k_in) rfl (by k_is) rfl rfl rfl); (case c5 => decide); (case kB => exact locs rfl); (case c2 => exact rfl); (case c3 => exact rfl); (case c4 => exact rfl); k_whole; intro mqzz gqzz Lqzz hqzz tqzz FGqzz Fqzz Nqzz Bqzz Xqzz Tqzz qkqzz ekqzz))
  k_with "storeName" => ((k_dflt (refine' storeL ?F ?N ?a ?b ?_; (case F => k_asm); (case N => k_asm); (case a => rfl); (case b => rfl); k_whole; intro mszz hszz tszz Fszz Nszz; (try k_sweep))))
  k_with "leaveF" => ((k_dflt (first | (refine' leaveF_ret ?k1 ?k2 ?_; (case k1 => k_asm); (case k2 => k_asm); k_whole) | (refine' leaveF_next ?k1 ?k2 ?_; (case k1 => k_asm); (case k2 => k_asm); k_whole)); intro kFlzz kNlzz; ground_anew kFlzz))
  k_with "ktr_room" => (((try dsimp only [depth_under_make, depth_under_kw, depth_in1, depth_deeper]); first | exact room1 (by assumption) (by decide) | exact room2 (by assumption) (by decide) | exact room0 (by assumption) | exact room3 (by assumption) (by decide) | exact room4 (by assumption) (by decide)))
  k_with "ktr_units" => (((try dsimp only [units_under_make, units_in1, units_deeper, Around.mark_units]); first | exact room1 (by assumption) (by decide) | exact room2 (by assumption) (by decide) | exact room0 (by assumption) | exact room3 (by assumption) (by decide) | exact room4 (by assumption) (by decide)))
  k_with "k_ne" => ((refine neN ?_; (try dsimp only); first | assumption | exact Ne.symm (by assumption) | exact Nat.ne_of_gt (by assumption) | exact Nat.ne_of_lt (by assumption) | exact neP1 (by assumption) | exact neP2 (by assumption) | exact neP3 (by assumption) | exact neP4 (by assumption) | exact neP5 (by assumption)))
  k_with "k_all" => (assumption)
  k_with "execs cons" => (((with_reducible show wpAny _ _ _ _ _ (PySem.Shared.mk _ _ _ (_ + 1) _)); refine genToks ?_; intro tk9zz))
  k_with "eval Constant int" => ((refine constG ?_; intro t9zz tk9zz))
  k_with "ke_room" => (ktr_units)
  k_with "k_room" => (((try simp only [depth_under_make, depth_under_kw, depth_in1]); ktr_room))
  k_with "spliced" => first | ((with_reducible show wpAny _ _ (spliced (backTo _ (starEach [PySem.Expr.Name _ _] _))) _ _ _); k_dflt (refine' argsN ?hF ?h0 rfl rfl rfl ?_; (case hF => k_asm); (case h0 => exact rfl); k_whole)) | ((with_reducible show wpAny _ _ (spliced (backTo _ (starEach [PySem.Expr.Constant (Const.int _) _ _] _))) _ _ _); refine argsC ?_; intro t9 tk9) | ((with_reducible show wpAny _ _ (spliced (backTo _ (starEach [PySem.Expr.Name _ _, PySem.Expr.Name _ _] _))) _ _ _); k_dflt (refine' argsNN ?hF ?h0 ?h1 rfl rfl rfl rfl rfl ?_; (case hF => k_asm); (case h0 => exact rfl); (case h1 => exact rfl); k_whole)) | ((with_reducible show wpAny _ _ (spliced (backTo _ (starEach [PySem.Expr.Name _ _, PySem.Expr.Constant (Const.int _) _ _] _))) _ _ _); k_dflt (refine' argsNC ?hF ?h0 rfl rfl rfl ?_; (case hF => k_asm); (case h0 => exact rfl); k_whole); intro t9 tk9) | ((with_reducible show wpAny _ _ (spliced (backTo _ (starEach [PySem.Expr.Name _ _, PySem.Expr.Name _ _, PySem.Expr.Name _ _] _))) _ _ _); k_dflt (refine' argsNNN ?hF ?h0 ?h1 ?h2 rfl rfl rfl rfl rfl rfl rfl ?_; (case hF => k_asm); (case h0 => exact rfl); (case h1 => exact rfl); (case h2 => exact rfl); k_whole))
  k_with "isTrue Compare" => ((with_reducible show wpAny _ _ (isTrue (PySem.Expr.Compare (PySem.Expr.Name _ _) [_] [PySem.Expr.Constant (Const.int _) _ _] _) _ _) _ _ _); k_dflt (refine' tsNC ?hF ?h0 ?hc rfl rfl rfl ?_; (case hF => k_asm); (case h0 => exact rfl); (case hc => exact rfl); k_whole); intro tk9)
  k_with "execs cons" => first | ((with_reducible show wpAny _ _ _ _ _ (PySem.Shared.mk _ _ _ (_ + 1) _)); refine genToks ?_; intro tk9) | (refine consQ ?_; intro q9)
  k_with "flowQ" => first | (refine flow_next ?_) | (refine flow_ret ?_)
  k_with "binaryOp Mult int int" => (k_here; k_dflt (refine mul_int ?_ (take_ok _ _ _)))
  k_steps
  all_goals (rename News _ _ _ _ => kN)
  · exact hret _ _ _ _ (by k_asm) (kst_newsOf kN (fun p hp => hp)) ⟨_, _, _, _, _, _, _, rfl, (fmod_bd _ _ ht.1).1, (fmod_bd _ _ ht.1).2, fdiv_nn _ _ h0 ht.1, h1, rfl⟩
  · exact hret _ _ _ _ (by k_asm) (kst_newsOf kN (fun p hp => hp)) ⟨_, _, _, _, _, _, _, rfl, (fmod_bd _ _ ht.1).1, (fmod_bd _ _ ht.1).2, h0, fmod_bd _ 2147483647 (by decide), rfl⟩
theorem one_c (S T : Nat) (s0 s1 : Int) (t0 t1 k kt : Nat) (h0 : 0 ≤ s0) (h1 : 0 ≤ s1 ∧ s1 < 2147483647) (tv : List Value) (ts : List Int) (hts : IntsAre tv ts) (hl : 1 ≤ ts.length ∧ ts.length < 1000) (news : List (Addr × Obj)) (hS : ∀ p ∈ news, p.1 ≠ S) (hT : T ≠ S) :
    CbM w mean mg mb 501 60 2000 ((S, srcO s0 s1 t0 t1 k) :: (T, listOf tv.toArray kt) :: news) [.ref S, .ref T] (fun n' r => ∃ (f : Int) (t : Tok) (s0' s1' : Int) (t0' t1' k' : Nat), r = .int (ts.getD f.toNat 0) t ∧ 0 ≤ f ∧ f < ts.length ∧ 0 ≤ s0' ∧ (0 ≤ s1' ∧ s1' < 2147483647) ∧ n' = (S, srcO s0' s1' t0' t1' k') :: (T, listOf tv.toArray kt) :: news) := by
  refine CbM_mk ?_; intro dpY unY gdY cnY csY acY ccY clY ouY a0Y baY h0Y LY mY shY sgY sdY skY soY QY EY aB aF aX aN aT akY adY auY hret
  have hl1 := hts.length
  k_dflt cell_enter
  k_with_none
  k_with "cell_enter" => ((refine' enterM ?k1 ?k2 ?k3 ?k4 ?k5 ?kA ?kF ?kK ?k6 ?k7 ?k8 ?k9 ?kB ?_ ?c2 ?c3 ?c4 ?c5; (case kA => exact rfl); (case kF => exact rfl); (case kK => assumption); (case k1 => k_asm); (case k2 => k_asm); (case k3 => k_asm); (case k4 => k_asm); (case k5 => k_asm); (case k6 => k_is); (case k7 => k_is); (case k8 => first | ktr_room | k_room); (case k9 => first | exact BindsTo.of_eq rfl | exact binds_K (by k_in) rfl (by k_is) rfl rfl rfl); (case c5 => decide); (case kB => exact locs rfl); (case c2 => exact rfl); (case c3 => exact rfl); (case c4 => exact rfl); k_whole; intro mqzz gqzz Lqzz hqzz tqzz FGqzz Fqzz Nqzz Bqzz Xqzz Tqzz qkqzz ekqzz))
  k_with "storeName" => ((k_dflt (refine' storeL ?F ?N ?a ?b ?_; (case F => k_asm); (case N => k_asm); (case a => rfl); (case b => rfl); k_whole; intro mszz hszz tszz Fszz Nszz; (try k_sweep))))
  k_with "leaveF" => ((k_dflt (first | (refine' leaveF_ret ?k1 ?k2 ?_; (case k1 => k_asm); (case k2 => k_asm); k_whole) | (refine' leaveF_next ?k1 ?k2 ?_; (case k1 => k_asm); (case k2 => k_asm); k_whole)); intro kFlzz kNlzz; ground_anew kFlzz))
  k_with "ktr_room" => (((try dsimp only [depth_under_make, depth_under_kw, depth_in1, depth_deeper]); first | exact room1 (by assumption) (by decide) | exact room2 (by assumption) (by decide) | exact room0 (by assumption) | exact room3 (by assumption) (by decide) | exact room4 (by assumption) (by decide)))
  k_with "ktr_units" => (((try dsimp only [units_under_make, units_in1, units_deeper, Around.mark_units]); first | exact room1 (by assumption) (by decide) | exact room2 (by assumption) (by decide) | exact room0 (by assumption) | exact room3 (by assumption) (by decide) | exact room4 (by assumption) (by decide)))
  k_with "k_ne" => ((refine neN ?_; (try dsimp only); first | assumption | exact Ne.symm (by assumption) | exact Nat.ne_of_gt (by assumption) | exact Nat.ne_of_lt (by assumption) | exact neP1 (by assumption) | exact neP2 (by assumption) | exact neP3 (by assumption) | exact neP4 (by assumption) | exact neP5 (by assumption)))
  k_with "k_all" => (assumption)
  k_with "execs cons" => (((with_reducible show wpAny _ _ _ _ _ (PySem.Shared.mk _ _ _ (_ + 1) _)); refine genToks ?_; intro tk9zz))
  k_with "eval Constant int" => ((refine constG ?_; intro t9zz tk9zz))
  k_with "ke_room" => (ktr_units)
  k_with "k_room" => (((try simp only [depth_under_make, depth_under_kw, depth_in1]); ktr_room))
  k_with "spliced" => first | ((with_reducible show wpAny _ _ (spliced (backTo _ (starEach [PySem.Expr.Name _ _] _))) _ _ _); k_dflt (refine' argsN ?hF ?h0 rfl rfl rfl ?_; (case hF => k_asm); (case h0 => exact rfl); k_whole)) | ((with_reducible show wpAny _ _ (spliced (backTo _ (starEach [PySem.Expr.Constant (Const.int _) _ _] _))) _ _ _); refine argsC ?_; intro t9 tk9) | ((with_reducible show wpAny _ _ (spliced (backTo _ (starEach [PySem.Expr.Name _ _, PySem.Expr.Name _ _] _))) _ _ _); k_dflt (refine' argsNN ?hF ?h0 ?h1 rfl rfl rfl rfl rfl ?_; (case hF => k_asm); (case h0 => exact rfl); (case h1 => exact rfl); k_whole)) | ((with_reducible show wpAny _ _ (spliced (backTo _ (starEach [PySem.Expr.Name _ _, PySem.Expr.Constant (Const.int _) _ _] _))) _ _ _); k_dflt (refine' argsNC ?hF ?h0 rfl rfl rfl ?_; (case hF => k_asm); (case h0 => exact rfl); k_whole); intro t9 tk9) | ((with_reducible show wpAny _ _ (spliced (backTo _ (starEach [PySem.Expr.Name _ _, PySem.Expr.Name _ _, PySem.Expr.Name _ _] _))) _ _ _); k_dflt (refine' argsNNN ?hF ?h0 ?h1 ?h2 rfl rfl rfl rfl rfl rfl rfl ?_; (case hF => k_asm); (case h0 => exact rfl); (case h1 => exact rfl); (case h2 => exact rfl); k_whole))
  k_with "isTrue Compare" => ((with_reducible show wpAny _ _ (isTrue (PySem.Expr.Compare (PySem.Expr.Name _ _) [_] [PySem.Expr.Constant (Const.int _) _ _] _) _ _) _ _ _); k_dflt (refine' tsNC ?hF ?h0 ?hc rfl rfl rfl ?_; (case hF => k_asm); (case h0 => exact rfl); (case hc => exact rfl); k_whole); intro tk9)
  k_with "execs cons" => first | ((with_reducible show wpAny _ _ _ _ _ (PySem.Shared.mk _ _ _ (_ + 1) _)); refine genToks ?_; intro tk9) | (refine consQ ?_; intro q9)
  k_with "flowQ" => first | (refine flow_next ?_) | (refine flow_ret ?_)
  k_with "call ref" => ((with_reducible show wpAny _ _ (call (Value.ref 494) _) _ _ _); (try dsimp only [List.nil_append, List.cons_append]); (k_dflt (refine' useM (take_c S s0 s1 t0 t1 k h0 h1 _ _ ?ct _ ?cS) ?uB ?uF ?uX ?uN ?uT ?uk ?ud ?uu ?_; (case uB => k_asm); (case uF => k_asm); (case uX => k_asm); (case uN => k_asm); (case ct => omega); (case cS => intro p hp; rcases List.mem_cons.mp hp with q | q; rw [q]; exact hT; exact hS p q); (case uT => k_asm); (case uk => exact rfl); (case ud => ktr_room); (case uu => ktr_units); k_whole; intro r6 n6 h6 tk6 P6 F6 N6; obtain ⟨f6, tf6, s06, s16, t06, t16, k6, rfl, f0, f1, z0, z1, rfl⟩ := P6)))
  k_steps
  all_goals (rename News _ _ _ _ => kN)
  all_goals exact hret _ _ _ _ (by k_asm) (kst_newsOf kN (fun p hp => hp)) ⟨_, _, _, _, _, _, _, rfl, f0, f1, z0, z1, rfl⟩
theorem take_u {S : Nat} {s0 s1 : Int} {t0 t1 k : Nat} (h0 : 0 ≤ s0) (h1 : 0 ≤ s1 ∧ s1 < 2147483647) (top : Int) (tt : Tok) (ht : 1 ≤ top ∧ top < 1000) {news : List (Addr × Obj)} {g : Obj → List (Addr × Obj)} (U : UpdF S (srcO s0 s1 t0 t1 k) news g) :
    CbM w mean mg mb 494 30 1000 news [.ref S, .int top tt] (fun n' r => ∃ (f : Int) (t : Tok) (s0' s1' : Int) (t0' t1' k' : Nat), r = .int f t ∧ 0 ≤ f ∧ f < top ∧ 0 ≤ s0' ∧ (0 ≤ s1' ∧ s1' < 2147483647) ∧ n' = g (srcO s0' s1' t0' t1' k')) := by
  obtain ⟨pre, post, rfl, hg, a, b⟩ := U.split
  refine CbM.weak (CbM.pre (take_c S s0 s1 t0 t1 k h0 h1 top tt ht (pre ++ post) (fun p hp => (List.mem_append.mp hp).elim (a p) (b p))) (fun p hp => ?_)) fun n' r h => ?_
  · exact List.perm_middle.mem_iff.mpr hp
  · obtain ⟨f, t, s0', s1', t0', t1', k', e, f0, f1, z0, z1, rfl⟩ := h
    exact ⟨g (srcO s0' s1' t0' t1' k'), by rw [hg]; intro p hp; exact List.perm_middle.mem_iff.mp hp, f, t, s0', s1', t0', t1', k', e, f0, f1, z0, z1, rfl⟩
theorem one_u {S T : Nat} {s0 s1 : Int} {t0 t1 k kt : Nat} (h0 : 0 ≤ s0) (h1 : 0 ≤ s1 ∧ s1 < 2147483647) {tv : List Value} {ts : List Int} (hts : IntsAre tv ts) (hl : 1 ≤ ts.length ∧ ts.length < 1000) {news : List (Addr × Obj)} {g : Obj → List (Addr × Obj)} (U : UpdF S (srcO s0 s1 t0 t1 k) news g) (hm : (T, listOf tv.toArray kt) ∈ news) (hT : T ≠ S) :
    CbM w mean mg mb 501 60 2000 news [.ref S, .ref T] (fun n' r => ∃ (f : Int) (t : Tok) (s0' s1' : Int) (t0' t1' k' : Nat), r = .int (ts.getD f.toNat 0) t ∧ 0 ≤ f ∧ f < ts.length ∧ 0 ≤ s0' ∧ (0 ≤ s1' ∧ s1' < 2147483647) ∧ n' = g (srcO s0' s1' t0' t1' k')) := by
  obtain ⟨pre, post, rfl, hg, a, b⟩ := U.split
  refine CbM.weak (CbM.pre (one_c S T s0 s1 t0 t1 k kt h0 h1 tv ts hts hl (pre ++ post) (fun p hp => (List.mem_append.mp hp).elim (a p) (b p)) hT) (fun p hp => ?_)) fun n' r h => ?_
  · simp only [List.mem_cons, List.mem_append] at hp hm ⊢
    rcases hp with hp | hp | hp | hp
    · simp [hp]
    · subst hp; rcases hm with hm | hm | hm <;> simp [hm]
    · simp [hp]
    · simp [hp]
  · obtain ⟨f, t, s0', s1', t0', t1', k', e, f0, f1, z0, z1, rfl⟩ := h
    exact ⟨g (srcO s0' s1' t0' t1' k'), by rw [hg]; intro p hp; rcases List.mem_cons.mp (List.perm_middle.mem_iff.mp hp) with q | q; exact q ▸ List.Mem.head _; exact List.Mem.tail _ (List.Mem.tail _ q), f, t, s0', s1', t0', t1', k', e, f0, f1, z0, z1, rfl⟩
end
section
variable {w : World} {mean : ExcName → Option Value} {mg mb : Str → Option Value} {news : List (Addr × Obj)}
  {dp un : Nat} {gd : Option (List Code)} {cn : Str} {cs : Scope} {a : Addr} {ccd : Value} {cl : List (Str × Addr)} {outer : List Env} {A₀ : Around} {base h₀ : Heap} {L : Addr} {m : Str → Option Value} {s : Shared} {Q E : Value → Shared → Prop}
theorem useTake {S : Nat} {s0 s1 : Int} {t0 t1 k : Nat} {top : Int} {tt : Tok} {g : Obj → List (Addr × Obj)} (h0 : 0 ≤ s0) (h1 : 0 ≤ s1 ∧ s1 < 2147483647) (ht : 1 ≤ top ∧ top < 1000) (U : UpdF S (srcO s0 s1 t0 t1 k) news g) (B : Below A₀ base outer h₀) (F : Fr h₀ L s.heap m) (X : (hd.heap_1 w.params).In h₀) (N0 : News h₀ L s.heap news) (T : Top hd.view_39 (looseW hd.view_39 [Str.ofString "HintWork"]) mean mg mb h₀)
    (hk : cs.kind = .function) (hd' : dp + 30 < recursionLimit) (hu : un + 1000 < cLine)
    (ret : ∀ (f : Int) (t : Tok) (s0' s1' : Int) (t0' t1' k' : Nat) (h' : Heap) (tk' : Nat), 0 ≤ f → f < top → 0 ≤ s0' → (0 ≤ s1' ∧ s1' < 2147483647) → Fr h₀ L h' m → News h₀ L h' (g (srcO s0' s1' t0' t1' k')) → Q (.int f t) { s with heap := h', toks := tk' }) :
    wpAny (model PySem.Challenge.rw_pf0201_01.row.prog w) (ktrTop dp un gd cn cs L a ccd cl outer) (call (.ref 494) [.ref S, .int top tt]) Q E s :=
  useM (take_u h0 h1 top tt ht U) B F X N0 T hk hd' hu fun r n' h' tk' P' F' N' => by
    obtain ⟨f, t, s0', s1', t0', t1', k', rfl, a1, a2, a3, a4, rfl⟩ := P'
    exact ret f t s0' s1' t0' t1' k' h' tk' a1 a2 a3 a4 F' N'
theorem useOne {S T1 : Nat} {s0 s1 : Int} {t0 t1 k kt : Nat} {tv : List Value} {ts : List Int} {g : Obj → List (Addr × Obj)} (h0 : 0 ≤ s0) (h1 : 0 ≤ s1 ∧ s1 < 2147483647) (hts : IntsAre tv ts) (hl : 1 ≤ ts.length ∧ ts.length < 1000) (U : UpdF S (srcO s0 s1 t0 t1 k) news g) (hm : (T1, listOf tv.toArray kt) ∈ news) (hT : T1 ≠ S) (B : Below A₀ base outer h₀) (F : Fr h₀ L s.heap m) (X : (hd.heap_1 w.params).In h₀) (N0 : News h₀ L s.heap news) (T : Top hd.view_39 (looseW hd.view_39 [Str.ofString "HintWork"]) mean mg mb h₀)
    (hk : cs.kind = .function) (hd' : dp + 60 < recursionLimit) (hu : un + 2000 < cLine)
    (ret : ∀ (f : Int) (t : Tok) (s0' s1' : Int) (t0' t1' k' : Nat) (h' : Heap) (tk' : Nat), 0 ≤ f → f < ts.length → 0 ≤ s0' → (0 ≤ s1' ∧ s1' < 2147483647) → Fr h₀ L h' m → News h₀ L h' (g (srcO s0' s1' t0' t1' k')) → Q (.int (ts.getD f.toNat 0) t) { s with heap := h', toks := tk' }) :
    wpAny (model PySem.Challenge.rw_pf0201_01.row.prog w) (ktrTop dp un gd cn cs L a ccd cl outer) (call (.ref 501) [.ref S, .ref T1]) Q E s :=
  useM (one_u h0 h1 hts hl U hm hT) B F X N0 T hk hd' hu fun r n' h' tk' P' F' N' => by
    obtain ⟨f, t, s0', s1', t0', t1', k', rfl, a1, a2, a3, a4, rfl⟩ := P'
    exact ret f t s0' s1' t0' t1' k' h' tk' a1 a2 a3 a4 F' N'
end
end

section
open PySem PySem.W PyProof.Rows PySem.Calls PySem.Spec
theorem kwStorage : True := by
  k_with_none
  w_top off
  trivial
theorem kwStorage_1 : True := by
  k_with_none
  k_with "cell_enter" => ((refine' enterM ?k1 ?k2 ?k3 ?k4 ?k5 ?kA ?kF ?kK ?k6 ?k7 ?k8 ?k9 ?kB ?_ ?c2 ?c3 ?c4 ?c5; (case kA => exact rfl); (case kF => exact rfl); (case kK => assumption); (case k1 => k_asm); (case k2 => k_asm); (case k3 => k_asm); (case k4 => k_asm); (case k5 => k_asm); (case k6 => k_is); (case k7 => k_is); (case k8 => first | ktr_room | k_room); (case k9 => first | exact BindsTo.of_eq rfl | exact binds_K (by k_in) rfl (by k_is) rfl rfl rfl); (case c5 => decide); (case kB => exact locs rfl); (case c2 => exact rfl); (case c3 => exact rfl); (case c4 => exact rfl); k_whole; intro mqzz gqzz Lqzz hqzz tqzz FGqzz Fqzz Nqzz Bqzz Xqzz Tqzz qkqzz ekqzz))
  k_with "storeName" => ((k_dflt (refine' storeL ?F ?N ?a ?b ?_; (case F => k_asm); (case N => k_asm); (case a => rfl); (case b => rfl); k_whole; intro mszz hszz tszz Fszz Nszz; (try k_sweep))))
  k_with "leaveF" => ((k_dflt (first | (refine' leaveF_ret ?k1 ?k2 ?_; (case k1 => k_asm); (case k2 => k_asm); k_whole) | (refine' leaveF_next ?k1 ?k2 ?_; (case k1 => k_asm); (case k2 => k_asm); k_whole)); intro kFlzz kNlzz; ground_anew kFlzz))
  k_with "ktr_room" => (((try dsimp only [depth_under_make, depth_under_kw, depth_in1, depth_deeper]); first | exact room1 (by assumption) (by decide) | exact room2 (by assumption) (by decide) | exact room0 (by assumption) | exact room3 (by assumption) (by decide) | exact room4 (by assumption) (by decide)))
  k_with "ktr_units" => (((try dsimp only [units_under_make, units_in1, units_deeper, Around.mark_units]); first | exact room1 (by assumption) (by decide) | exact room2 (by assumption) (by decide) | exact room0 (by assumption) | exact room3 (by assumption) (by decide) | exact room4 (by assumption) (by decide)))
  k_with "k_ne" => ((refine neN ?_; (try dsimp only); first | assumption | exact Ne.symm (by assumption) | exact Nat.ne_of_gt (by assumption) | exact Nat.ne_of_lt (by assumption) | exact neP1 (by assumption) | exact neP2 (by assumption) | exact neP3 (by assumption) | exact neP4 (by assumption) | exact neP5 (by assumption)))
  trivial
theorem z_two (zs : List Int) (h : 2 ≤ zs.length) : zs = zs.take (zs.length - 2) ++ [zs.getD (-2 + (zs.length : Int)).toNat 0] ++ [zs.getD (-1 + (zs.length : Int)).toNat 0] := by
  rcases shape2 zs with ⟨h2, -⟩ | ⟨ys, x, y, rfl⟩
  · omega
  · rw [show (-2 + ((ys ++ [x] ++ [y]).length : Int)).toNat = ys.length by (simp; omega), show (-1 + ((ys ++ [x] ++ [y]).length : Int)).toNat = ys.length + 1 by (simp; omega)]
    simp
theorem val_hit (X : Int) (v : Value) : valueAt [(X, v)] X = some v := by simp [valueAt]
theorem val_miss (X : Int) (v : Value) : valueAt [(X, v)] (X + 1) = none := by
  have : ¬ X = X + 1 := by omega
  simp [valueAt, List.find?, this]
theorem l_perm1 (i l t2 t1 ds d5 w wd st sd n sto s : Addr × Obj) (r : List (Addr × Obj)) : ∀ p ∈ w :: wd :: st :: sd :: n :: sto :: i :: l :: t2 :: t1 :: s :: r, p ∈ i :: l :: t2 :: t1 :: ds :: d5 :: w :: wd :: st :: sd :: n :: sto :: s :: r :=
  List.forall_mem_cons.mpr ⟨.tail _ (.tail _ (.tail _ (.tail _ (.tail _ (.tail _ (.head _)))))), List.forall_mem_cons.mpr ⟨.tail _ (.tail _ (.tail _ (.tail _ (.tail _ (.tail _ (.tail _ (.head _))))))), List.forall_mem_cons.mpr ⟨.tail _ (.tail _ (.tail _ (.tail _ (.tail _ (.tail _ (.tail _ (.tail _ (.head _)))))))), List.forall_mem_cons.mpr ⟨.tail _ (.tail _ (.tail _ (.tail _ (.tail _ (.tail _ (.tail _ (.tail _ (.tail _ (.head _))))))))), List.forall_mem_cons.mpr ⟨.tail _ (.tail _ (.tail _ (.tail _ (.tail _ (.tail _ (.tail _ (.tail _ (.tail _ (.tail _ (.head _)))))))))), List.forall_mem_cons.mpr ⟨.tail _ (.tail _ (.tail _ (.tail _ (.tail _ (.tail _ (.tail _ (.tail _ (.tail _ (.tail _ (.tail _ (.head _))))))))))), List.forall_mem_cons.mpr ⟨.head _, List.forall_mem_cons.mpr ⟨.tail _ (.head _), List.forall_mem_cons.mpr ⟨.tail _ (.tail _ (.head _)), List.forall_mem_cons.mpr ⟨.tail _ (.tail _ (.tail _ (.head _))), List.forall_mem_cons.mpr ⟨.tail _ (.tail _ (.tail _ (.tail _ (.tail _ (.tail _ (.tail _ (.tail _ (.tail _ (.tail _ (.tail _ (.tail _ (.head _)))))))))))), fun _ hp => .tail _ (.tail _ (.tail _ (.tail _ (.tail _ (.tail _ (.tail _ (.tail _ (.tail _ (.tail _ (.tail _ (.tail _ (.tail _ (hp)))))))))))))⟩⟩⟩⟩⟩⟩⟩⟩⟩⟩⟩
theorem l_perm2 (x y z d w wd st sd n sto i l t2 t1 s : Addr × Obj) (r : List (Addr × Obj)) : ∀ p ∈ [i] ++ (w :: wd :: st :: sd :: n :: sto :: l :: t2 :: t1 :: s :: r), p ∈ x :: y :: z :: d :: w :: wd :: st :: sd :: n :: sto :: i :: l :: t2 :: t1 :: s :: r :=
  List.forall_mem_cons.mpr ⟨.tail _ (.tail _ (.tail _ (.tail _ (.tail _ (.tail _ (.tail _ (.tail _ (.tail _ (.tail _ (.head _)))))))))), List.forall_mem_cons.mpr ⟨.tail _ (.tail _ (.tail _ (.tail _ (.head _)))), List.forall_mem_cons.mpr ⟨.tail _ (.tail _ (.tail _ (.tail _ (.tail _ (.head _))))), List.forall_mem_cons.mpr ⟨.tail _ (.tail _ (.tail _ (.tail _ (.tail _ (.tail _ (.head _)))))), List.forall_mem_cons.mpr ⟨.tail _ (.tail _ (.tail _ (.tail _ (.tail _ (.tail _ (.tail _ (.head _))))))), List.forall_mem_cons.mpr ⟨.tail _ (.tail _ (.tail _ (.tail _ (.tail _ (.tail _ (.tail _ (.tail _ (.head _)))))))), List.forall_mem_cons.mpr ⟨.tail _ (.tail _ (.tail _ (.tail _ (.tail _ (.tail _ (.tail _ (.tail _ (.tail _ (.head _))))))))), List.forall_mem_cons.mpr ⟨.tail _ (.tail _ (.tail _ (.tail _ (.tail _ (.tail _ (.tail _ (.tail _ (.tail _ (.tail _ (.tail _ (.head _))))))))))), List.forall_mem_cons.mpr ⟨.tail _ (.tail _ (.tail _ (.tail _ (.tail _ (.tail _ (.tail _ (.tail _ (.tail _ (.tail _ (.tail _ (.tail _ (.head _)))))))))))), List.forall_mem_cons.mpr ⟨.tail _ (.tail _ (.tail _ (.tail _ (.tail _ (.tail _ (.tail _ (.tail _ (.tail _ (.tail _ (.tail _ (.tail _ (.tail _ (.head _))))))))))))), List.forall_mem_cons.mpr ⟨.tail _ (.tail _ (.tail _ (.tail _ (.tail _ (.tail _ (.tail _ (.tail _ (.tail _ (.tail _ (.tail _ (.tail _ (.tail _ (.tail _ (.head _)))))))))))))), fun _ hp => .tail _ (.tail _ (.tail _ (.tail _ (.tail _ (.tail _ (.tail _ (.tail _ (.tail _ (.tail _ (.tail _ (.tail _ (.tail _ (.tail _ (.tail _ (hp)))))))))))))))⟩⟩⟩⟩⟩⟩⟩⟩⟩⟩⟩
theorem l_perm3 (w wd st sd n sto i l t2 t1 s : Addr × Obj) (r : List (Addr × Obj)) : ∀ p ∈ w :: wd :: st :: sd :: n :: sto :: i :: l :: t2 :: t1 :: s :: r, p ∈ i :: w :: wd :: st :: sd :: n :: sto :: l :: t2 :: t1 :: s :: r :=
  List.forall_mem_cons.mpr ⟨.tail _ (.head _), List.forall_mem_cons.mpr ⟨.tail _ (.tail _ (.head _)), List.forall_mem_cons.mpr ⟨.tail _ (.tail _ (.tail _ (.head _))), List.forall_mem_cons.mpr ⟨.tail _ (.tail _ (.tail _ (.tail _ (.head _)))), List.forall_mem_cons.mpr ⟨.tail _ (.tail _ (.tail _ (.tail _ (.tail _ (.head _))))), List.forall_mem_cons.mpr ⟨.tail _ (.tail _ (.tail _ (.tail _ (.tail _ (.tail _ (.head _)))))), List.forall_mem_cons.mpr ⟨.head _, List.forall_mem_cons.mpr ⟨.tail _ (.tail _ (.tail _ (.tail _ (.tail _ (.tail _ (.tail _ (.head _))))))), List.forall_mem_cons.mpr ⟨.tail _ (.tail _ (.tail _ (.tail _ (.tail _ (.tail _ (.tail _ (.tail _ (.head _)))))))), List.forall_mem_cons.mpr ⟨.tail _ (.tail _ (.tail _ (.tail _ (.tail _ (.tail _ (.tail _ (.tail _ (.tail _ (.head _))))))))), List.forall_mem_cons.mpr ⟨.tail _ (.tail _ (.tail _ (.tail _ (.tail _ (.tail _ (.tail _ (.tail _ (.tail _ (.tail _ (.head _)))))))))), fun _ hp => .tail _ (.tail _ (.tail _ (.tail _ (.tail _ (.tail _ (.tail _ (.tail _ (.tail _ (.tail _ (.tail _ (hp)))))))))))⟩⟩⟩⟩⟩⟩⟩⟩⟩⟩⟩
theorem chain_two {a : WA} {N x y : Nat} {o oy oy' : Obj} {r : List (Addr × Obj)} (h : Chain a N ((x, o) :: (y, oy) :: r)) : Chain a N ((x, o) :: (y, oy') :: r) := by
  obtain ⟨h1, h2, h3, h4, h5, h6⟩ := h
  simp only [List.forall_mem_cons] at h5 h6
  exact ⟨h1, h2, h3, h4, by simp only [List.forall_mem_cons]; exact h5, by simp only [List.forall_mem_cons]; exact h6⟩
theorem chain_mk {a : WA} {N sto i l t2 t1 s : Nat} {o1 o2 o3 o4 o5 o6 : Obj} {r : List (Addr × Obj)} (h1 : a.WD < a.W) (h2 : a.W < a.SD) (h3 : a.SD < a.ST) (h4 : a.ST < N)
    (n1 : sto ≠ N ∧ i ≠ N ∧ l ≠ N ∧ t2 ≠ N ∧ t1 ≠ N ∧ s ≠ N) (n2 : ∀ p ∈ r, p.1 ≠ N) (m1 : sto ≠ a.SD ∧ i ≠ a.SD ∧ l ≠ a.SD ∧ t2 ≠ a.SD ∧ t1 ≠ a.SD ∧ s ≠ a.SD) (m2 : ∀ p ∈ r, p.1 ≠ a.SD) :
    Chain a N ((sto, o1) :: (i, o2) :: (l, o3) :: (t2, o4) :: (t1, o5) :: (s, o6) :: r) := by
  refine ⟨h1, h2, h3, h4, ?_, ?_⟩
  · simp only [List.forall_mem_cons]; exact ⟨n1.1, n1.2.1, n1.2.2.1, n1.2.2.2.1, n1.2.2.2.2.1, n1.2.2.2.2.2, n2⟩
  · simp only [List.forall_mem_cons]; exact ⟨m1.1, m1.2.1, m1.2.2.1, m1.2.2.2.1, m1.2.2.2.2.1, m1.2.2.2.2.2, m2⟩
theorem unrW_end {h₀ : Heap} {L : Addr} {its : List (Addr × Obj)} {rest : (Str → Option Value) → List (Addr × Obj) → Prop} {s₁ : Shared} {h' : Heap} {tk : Nat} {m' : Str → Option Value} {all news' : List (Addr × Obj)} (F : Fr h₀ L h' m') (N : News h₀ L h' all) (sub : ∀ p ∈ its ++ news', p ∈ all) (off : ∀ p ∈ news', ∀ q ∈ its, p.1 ≠ q.1) (r : rest m' news') :
    UnrEndW h₀ L s₁ its rest { s₁ with heap := h', toks := tk } := ⟨h', tk, m', news', rfl, F, fun p hp => N p (sub p hp), off, r⟩
theorem off_one {I w wd st sd n sto l t2 t1 s : Nat} {o o1 o2 o3 o4 o5 o6 o7 o8 o9 o0 : Obj} {r : List (Addr × Obj)} (h : w < I ∧ wd < I ∧ st < I ∧ sd < I ∧ n ≠ I ∧ sto < I ∧ l < I ∧ t2 < I ∧ t1 < I ∧ s < I) (h2 : ∀ p ∈ r, p.1 ≠ I) :
    ∀ p ∈ ((w, o1) :: (wd, o2) :: (st, o3) :: (sd, o4) :: (n, o5) :: (sto, o6) :: (l, o7) :: (t2, o8) :: (t1, o9) :: (s, o0) :: r : List (Addr × Obj)), ∀ q ∈ [((I, o) : Addr × Obj)], p.1 ≠ q.1 := by
  obtain ⟨h1, h3, h4, h5, h6, h7, h8, h9, h10, h11⟩ := h
  intro p hp q hq
  obtain rfl := List.mem_singleton.mp hq
  simp only [List.mem_cons] at hp
  rcases hp with rfl | rfl | rfl | rfl | rfl | rfl | rfl | rfl | rfl | rfl | hp <;> first | assumption | exact Nat.ne_of_lt (by assumption) | exact h2 p hp
theorem l_sub6 (a b c d e f g h i j k : Addr × Obj) (l : List (Addr × Obj)) : ∀ p ∈ a :: b :: c :: d :: e :: f :: k :: l, p ∈ a :: b :: c :: d :: e :: f :: g :: h :: i :: j :: k :: l :=
  List.forall_mem_cons.mpr ⟨.head _, List.forall_mem_cons.mpr ⟨.tail _ (.head _), List.forall_mem_cons.mpr ⟨.tail _ (.tail _ (.head _)), List.forall_mem_cons.mpr ⟨.tail _ (.tail _ (.tail _ (.head _))), List.forall_mem_cons.mpr ⟨.tail _ (.tail _ (.tail _ (.tail _ (.head _)))), List.forall_mem_cons.mpr ⟨.tail _ (.tail _ (.tail _ (.tail _ (.tail _ (.head _))))), List.forall_mem_cons.mpr ⟨.tail _ (.tail _ (.tail _ (.tail _ (.tail _ (.tail _ (.tail _ (.tail _ (.tail _ (.tail _ (.head _)))))))))), fun _ hp => .tail _ (.tail _ (.tail _ (.tail _ (.tail _ (.tail _ (.tail _ (.tail _ (.tail _ (.tail _ (.tail _ (hp)))))))))))⟩⟩⟩⟩⟩⟩⟩
theorem exK2 {α β : Type} {A B : α → β → Prop} {G : Prop} (h : ∃ x y, A x y ∧ B x y) (k : ∀ x y, A x y → B x y → G) : G := let ⟨x, y, a, b⟩ := h; k x y a b
theorem invK {vs : List Value} {ys : List Int} {y : Int} {G : Prop} (h : IntsAre vs (ys ++ [y])) (k : ∀ us t, vs = us ++ [Value.int y t] → IntsAre us ys → G) : G := let ⟨us, t, e, i⟩ := ints_inv h; k us t e i
theorem Chain.nW {a : WA} {N : Nat} {r : List (Addr × Obj)} (c : Chain a N r) : a.W ≠ N := Nat.ne_of_lt (Nat.lt_trans c.c2 (Nat.lt_trans c.c3 c.c4))
theorem Chain.nWD {a : WA} {N : Nat} {r : List (Addr × Obj)} (c : Chain a N r) : a.WD ≠ N := Nat.ne_of_lt (Nat.lt_trans c.c1 (Nat.lt_trans c.c2 (Nat.lt_trans c.c3 c.c4)))
theorem Chain.nST {a : WA} {N : Nat} {r : List (Addr × Obj)} (c : Chain a N r) : a.ST ≠ N := Nat.ne_of_lt c.c4
theorem Chain.nSD {a : WA} {N : Nat} {r : List (Addr × Obj)} (c : Chain a N r) : a.SD ≠ N := Nat.ne_of_lt (Nat.lt_trans c.c3 c.c4)
theorem chE {a : WA} {N STO S : Nat} {o1 o2 : Obj} {news : List (Addr × Obj)} {G : Prop} (c : Chain a N ((STO, o1) :: (S, o2) :: news)) (k : a.W ≠ N → a.WD ≠ N → a.ST ≠ N → a.SD ≠ N → a.WD < a.W → a.W < a.SD → a.SD < a.ST → a.ST < N → S ≠ N → STO ≠ N → (∀ p ∈ news, p.1 ≠ N) → G) : G :=
  k c.nW c.nWD c.nST c.nSD c.c1 c.c2 c.c3 c.c4 (c.r1 _ (.tail _ (.head _))) (c.r1 _ (.head _)) fun p hp => c.r1 p (.tail _ (.tail _ hp))
theorem sevE {a : WA} {N x1 x2 x3 x4 x5 x6 : Nat} {o1 o2 o3 o4 o5 o6 : Obj} {news : List (Addr × Obj)} {G : Prop} (c : Chain a N ((x1, o1) :: (x2, o2) :: (x3, o3) :: (x4, o4) :: (x5, o5) :: (x6, o6) :: news)) (k : a.W ≠ N → a.WD ≠ N → a.ST ≠ N → a.SD ≠ N → a.ST < N → x1 ≠ N → x2 ≠ N → x3 ≠ N → x4 ≠ N → x5 ≠ N → x6 ≠ N → (∀ p ∈ news, p.1 ≠ N) → G) : G :=
  k c.nW c.nWD c.nST c.nSD c.c4 (c.r1 _ (.head _)) (c.r1 _ (.tail _ (.head _))) (c.r1 _ (.tail _ (.tail _ (.head _)))) (c.r1 _ (.tail _ (.tail _ (.tail _ (.head _))))) (c.r1 _ (.tail _ (.tail _ (.tail _ (.tail _ (.head _)))))) (c.r1 _ (.tail _ (.tail _ (.tail _ (.tail _ (.tail _ (.head _))))))) fun p hp => c.r1 p (.tail _ (.tail _ (.tail _ (.tail _ (.tail _ (.tail _ hp))))))
section
variable {w : World} {mean : ExcName → Option Value} {mg mb : Str → Option Value}
theorem kwStorage_2 : True := by
  k_with_none
  k_with "cell_enter" => ((refine' enterM ?k1 ?k2 ?k3 ?k4 ?k5 ?kA ?kF ?kK ?k6 ?k7 ?k8 ?k9 ?kB ?_ ?c2 ?c3 ?c4 ?c5; (case kA => exact rfl); (case kF => exact rfl); (case kK => assumption); (case k1 => k_asm); (case k2 => k_asm); (case k3 => k_asm); (case k4 => k_asm); (case k5 => k_asm); (case k6 => k_is); (case k7 => k_is); (case k8 => first | ktr_room | k_room); (case k9 => first | exact BindsTo.of_eq rfl | exact binds_K (by k_in) rfl (by k_is) rfl rfl rfl); (case c5 => decide); (case kB => exact locs rfl); (case c2 => exact rfl); (case c3 => exact rfl); (case c4 => exact rfl); k_whole; intro mqzz gqzz Lqzz hqzz tqzz FGqzz Fqzz Nqzz Bqzz Xqzz Tqzz qkqzz ekqzz))
  k_with "storeName" => ((k_dflt (refine' storeL ?F ?N ?a ?b ?_; (case F => k_asm); (case N => k_asm); (case a => rfl); (case b => rfl); k_whole; intro mszz hszz tszz Fszz Nszz; (try k_sweep))))
  k_with "leaveF" => ((k_dflt (first | (refine' leaveF_ret ?k1 ?k2 ?_; (case k1 => k_asm); (case k2 => k_asm); k_whole) | (refine' leaveF_next ?k1 ?k2 ?_; (case k1 => k_asm); (case k2 => k_asm); k_whole)); intro kFlzz kNlzz; ground_anew kFlzz))
  k_with "ktr_room" => (((try dsimp only [depth_under_make, depth_under_kw, depth_in1, depth_deeper]); first | exact room1 (by assumption) (by decide) | exact room2 (by assumption) (by decide) | exact room0 (by assumption) | exact room3 (by assumption) (by decide) | exact room4 (by assumption) (by decide)))
  k_with "ktr_units" => (((try dsimp only [units_under_make, units_in1, units_deeper, Around.mark_units]); first | exact room1 (by assumption) (by decide) | exact room2 (by assumption) (by decide) | exact room0 (by assumption) | exact room3 (by assumption) (by decide) | exact room4 (by assumption) (by decide)))
  k_with "k_ne" => ((refine neN ?_; (try dsimp only); first | assumption | exact Ne.symm (by assumption) | exact Nat.ne_of_gt (by assumption) | exact Nat.ne_of_lt (by assumption) | exact neP1 (by assumption) | exact neP2 (by assumption) | exact neP3 (by assumption) | exact neP4 (by assumption) | exact neP5 (by assumption)))
  k_with "k_all" => (assumption)
  k_with "execs cons" => (((with_reducible show wpAny _ _ _ _ _ (PySem.Shared.mk _ _ _ (_ + 1) _)); refine genToks ?_; intro tk9zz))
  k_with "eval Constant int" => ((refine constG ?_; intro t9zz tk9zz))
  k_with "ke_room" => (ktr_units)
  k_with "k_room" => (((try simp only [depth_under_make, depth_under_kw, depth_in1]); ktr_room))
  trivial
theorem storage_short (zs : List Int) (hl : zs.length < 2) (S k : Nat) (vs : List Value) (news : List (Addr × Obj)) (hv : IntsAre vs zs) :
    CbM w mean mg mb 562 150 8000 ((S, listOf vs.toArray k) :: news) [.ref S] (fun n' r => n' = (S, listOf vs.toArray k) :: news ∧ r = .bool true) := by
  refine CbM_mk ?_; intro dpY unY gdY cnY csY acY ccY clY ouY a0Y baY h0Y LY mY shY sgY sdY skY soY QY EY aB aF aX aN aT akY adY auY hret
  have hl1 := hv.length
  k_dflt cell_enter
  k_steps
  all_goals (rename News _ _ _ _ => kN; exact hret _ _ _ _ (by k_asm) (kst_newsOf kN (fun p hp => hp)) ⟨rfl, rfl⟩)
theorem storage_c (zs : List Int) (hl : 2 ≤ zs.length) (hl8 : zs.length ≤ 8) (S k : Nat) (vs : List Value) (news : List (Addr × Obj)) (hv : IntsAre vs zs) (hS : ∀ p ∈ news, p.1 ≠ S) :
    CbM w mean mg mb 562 150 8000 ((S, listOf vs.toArray k) :: news) [.ref S] (fun n' r => n' = (S, listOf vs.toArray k) :: news ∧ r = .bool true) := by
  refine CbM_mk ?_; intro dpY unY gdY cnY csY acY ccY clY ouY a0Y baY h0Y LY mY shY sgY sdY skY soY QY EY aB aF aX aN aT akY adY auY hret
  have hl1 := hv.length
  have hz := z_two zs hl
  have hl6 : (zs.take (zs.length - 2)).length ≤ 6 := by rw [List.length_take]; omega
  k_dflt (refine' enterM ?k1 ?k2 ?k3 ?k4 ?k5 ?kA ?kF ?kK ?k6 ?k7 ?k8 ?k9 ?kB ?_ ?c2 ?c3 ?c4 ?c5; (case kA => exact rfl); (case kF => exact rfl); (case kK => assumption); (case k1 => k_asm); (case k2 => k_asm); (case k3 => k_asm); (case k4 => k_asm); (case k5 => k_asm); (case k6 => k_is); (case k7 => k_is); (case k8 => first | ktr_room | k_room); (case k9 => first | exact BindsTo.of_eq rfl | exact binds_K (by k_in) rfl (by k_is) rfl rfl rfl); (case c5 => decide); (case kB => exact locs rfl); (case c2 => exact rfl); (case c3 => exact rfl); (case c4 => exact rfl); k_whole; intro mq g' L' hq tq FGq Fq Nq Bq Xq Tq qkq ekq)
  k_with_none
  k_with "cell_enter" => ((refine' enterM ?k1 ?k2 ?k3 ?k4 ?k5 ?kA ?kF ?kK ?k6 ?k7 ?k8 ?k9 ?kB ?_ ?c2 ?c3 ?c4 ?c5; (case kA => exact rfl); (case kF => exact rfl); (case kK => assumption); (case k1 => k_asm); (case k2 => k_asm); (case k3 => k_asm); (case k4 => k_asm); (case k5 => k_asm); (case k6 => k_is); (case k7 => k_is); (case k8 => first | ktr_room | k_room); (case k9 => first | exact BindsTo.of_eq rfl | exact binds_K (by k_in) rfl (by k_is) rfl rfl rfl); (case c5 => decide); (case kB => exact locs rfl); (case c2 => exact rfl); (case c3 => exact rfl); (case c4 => exact rfl); k_whole; intro mqzz gqzz Lqzz hqzz tqzz FGqzz Fqzz Nqzz Bqzz Xqzz Tqzz qkqzz ekqzz))
  k_with "storeName" => ((k_dflt (refine' storeL ?F ?N ?a ?b ?_; (case F => k_asm); (case N => k_asm); (case a => rfl); (case b => rfl); k_whole; intro mszz hszz tszz Fszz Nszz; (try k_sweep))))
  k_with "leaveF" => ((k_dflt (first | (refine' leaveF_ret ?k1 ?k2 ?_; (case k1 => k_asm); (case k2 => k_asm); k_whole) | (refine' leaveF_next ?k1 ?k2 ?_; (case k1 => k_asm); (case k2 => k_asm); k_whole)); intro kFlzz kNlzz; ground_anew kFlzz))
  k_with "ktr_room" => (((try dsimp only [depth_under_make, depth_under_kw, depth_in1, depth_deeper]); first | exact room1 (by assumption) (by decide) | exact room2 (by assumption) (by decide) | exact room0 (by assumption) | exact room3 (by assumption) (by decide) | exact room4 (by assumption) (by decide)))
  k_with "ktr_units" => (((try dsimp only [units_under_make, units_in1, units_deeper, Around.mark_units]); first | exact room1 (by assumption) (by decide) | exact room2 (by assumption) (by decide) | exact room0 (by assumption) | exact room3 (by assumption) (by decide) | exact room4 (by assumption) (by decide)))
  k_with "k_ne" => ((refine neN ?_; (try dsimp only); first | assumption | exact Ne.symm (by assumption) | exact Nat.ne_of_gt (by assumption) | exact Nat.ne_of_lt (by assumption) | exact neP1 (by assumption) | exact neP2 (by assumption) | exact neP3 (by assumption) | exact neP4 (by assumption) | exact neP5 (by assumption)))
  k_with "k_all" => (assumption)
  k_with "execs cons" => (((with_reducible show wpAny _ _ _ _ _ (PySem.Shared.mk _ _ _ (_ + 1) _)); refine genToks ?_; intro tk9zz))
  k_with "eval Constant int" => ((refine constG ?_; intro t9zz tk9zz))
  k_with "ke_room" => (ktr_units)
  k_with "k_room" => (((try simp only [depth_under_make, depth_under_kw, depth_in1]); ktr_room))
  k_with "spliced" => first | ((with_reducible show wpAny _ _ (spliced (backTo _ (starEach [PySem.Expr.Name _ _] _))) _ _ _); k_dflt (refine' argsN ?hF ?h0 rfl rfl rfl ?_; (case hF => k_asm); (case h0 => exact rfl); k_whole)) | ((with_reducible show wpAny _ _ (spliced (backTo _ (starEach [PySem.Expr.Constant (Const.int _) _ _] _))) _ _ _); refine argsC ?_; intro t9 tk9) | ((with_reducible show wpAny _ _ (spliced (backTo _ (starEach [PySem.Expr.Name _ _, PySem.Expr.Name _ _] _))) _ _ _); k_dflt (refine' argsNN ?hF ?h0 ?h1 rfl rfl rfl rfl rfl ?_; (case hF => k_asm); (case h0 => exact rfl); (case h1 => exact rfl); k_whole)) | ((with_reducible show wpAny _ _ (spliced (backTo _ (starEach [PySem.Expr.Name _ _, PySem.Expr.Constant (Const.int _) _ _] _))) _ _ _); k_dflt (refine' argsNC ?hF ?h0 rfl rfl rfl ?_; (case hF => k_asm); (case h0 => exact rfl); k_whole); intro t9 tk9) | ((with_reducible show wpAny _ _ (spliced (backTo _ (starEach [PySem.Expr.Name _ _, PySem.Expr.Name _ _, PySem.Expr.Name _ _] _))) _ _ _); k_dflt (refine' argsNNN ?hF ?h0 ?h1 ?h2 rfl rfl rfl rfl rfl rfl rfl ?_; (case hF => k_asm); (case h0 => exact rfl); (case h1 => exact rfl); (case h2 => exact rfl); k_whole))
  k_with "isTrue Compare" => ((with_reducible show wpAny _ _ (isTrue (PySem.Expr.Compare (PySem.Expr.Name _ _) [_] [PySem.Expr.Constant (Const.int _) _ _] _) _ _) _ _ _); k_dflt (refine' tsNC ?hF ?h0 ?hc rfl rfl rfl ?_; (case hF => k_asm); (case h0 => exact rfl); (case hc => exact rfl); k_whole); intro tk9)
  k_with "execs cons" => first | ((with_reducible show wpAny _ _ _ _ _ (PySem.Shared.mk _ _ _ (_ + 1) _)); refine genToks ?_; intro tk9) | (refine consQ ?_; intro q9)
  k_with "flowQ" => first | (refine flow_next ?_) | (refine flow_ret ?_)
  k_with "exec For Name Name cons nil" => ((rename Fr _ _ _ _ => lF'); (with_unfolding_all refine' For_invVF lF' ?k1 ?k2 ?_; (case k1 => exact rfl); (case k2 => exact rfl); k_whole))
  k_with "pyIter ref" => 
    ((with_reducible show wpAny _ _ (pyIter (Value.ref S)) _ _ _)
     rename News _ _ _ _ => kN
     (k_dflt (refine' loopL (fun i nx => ∃ uu nk, IntsAre uu (zs.take i) ∧ nx = (a6.W, instObj 476 a6.WD) :: (a6.WD, wdObj a6) :: (a6.ST, instObj 425 a6.SD) :: (a6.SD, sdObj a6.h1 a6.h2 a6.t1 a6.t2 8 a6.tm NN) :: (NN, listOf uu.toArray nk) :: (STO, oS6) :: (S, listOf vs.toArray k) :: news) ?qlh ?qll hv ?qlF (kst_newsOf kN (l_sub6 _ _ _ _ _ _ _ _ _ _ _ _)) ?qlj ?qlt ?qld; (case qlh => rfl); (case qll => k_mem); (case qlF => k_asm); (case qlj => exact ⟨[], k6, .nil, rfl⟩)))
     (k_dflt (
         intro i8 n8 t8 nx h8 tk8 own hn hoff hmem hJ F8 N8
         obtain ⟨uu, nk, i6, hJ⟩ := hJ
         subst hJ
         replace F8 : Fr g' L' h8 _ := F8
         replace N8 : News g' L' h8 _ := N8
         simp only [List.cons_append] at N8
         have hi8 : i8 < zs.length := (List.getElem?_eq_some_iff.mp hn).1
         have hl9 : uu.length = i8 := by rw [i6.length, List.length_take]; omega
         have hSW : S < a6.WD := hW6 (S, listOf vs.toArray k) (by simp)
         have r9 : ∀ p ∈ news ++ own, p.1 ≠ NN := by
           intro p hp
           rcases List.mem_append.mp hp with q | q
           · exact Nat.ne_of_lt (Nat.lt_trans (hW6 p (by simp [q])) (by omega))
           · exact hoff p q NN (by simp)))
     rotate_left
     (k_dflt (
         intro u8 nx h8 tk8 hJ F8 N8
         obtain ⟨uu, nk, i6, hJ⟩ := hJ
         subst hJ
         replace F8 : Fr g' L' h8 _ := F8
         replace N8 : News g' L' h8 _ := N8
         rw [List.take_length] at i6
         have hSW : S < a6.WD := hW6 (S, listOf vs.toArray k) (by simp)
         have hno : ∀ p ∈ (S, listOf vs.toArray k) :: news, p.1 < a6.WD := fun p hp => hW6 p (by simp only [List.mem_cons] at hp ⊢; rcases hp with hp | hp <;> simp [hp])
         have hCh : Chain a6 NN ((STO, oS6) :: (S, listOf vs.toArray k) :: news) := ⟨w1, by omega, w5, w6, (fun p hp => by rcases List.mem_cons.mp hp with q | q; rw [q]; exact Nat.ne_of_gt w7; exact Nat.ne_of_lt (Nat.lt_trans (hno p q) (by omega))), (fun p hp => by rcases List.mem_cons.mp hp with q | q; rw [q]; exact Nat.ne_of_gt (by omega); exact Nat.ne_of_lt (Nat.lt_trans (hno p q) (by omega)))⟩)))
  k_with "pyIter ref" => ((rename Fr _ _ _ _ => lF'); (rename News _ _ _ _ => kN); (with_unfolding_all refine iter_listTurns (vs := [_, _]) (by rfl) lF' kN (List.Mem.head _) (by rfl) (by rfl) ?_); clear lF'; intro I9 l1; (have qAll : ∀ p ∈ news, p.1 < I9 := fun p hp => l1 p (by simp [hp])); (try k_lt l1))
  k_with "UnrEndW" => (rename News _ _ _ _ => kN; (k_dflt (refine' unrW_end ?eF kN (l_perm2 _ _ _ _ _ _ _ _ _ _ _ _ _ _ _ _) ?eo ⟨?ek, ?_⟩; (case eF => k_asm); (case eo => exact off_one (by and_intros <;> first | assumption | exact Ne.symm (by assumption) | omega) (fun p hp => Nat.ne_of_lt (qAll p hp))); (case ek => k_subL); k_whole)))
  k_with "InvEndN" => (k_dflt (
      rename News _ _ _ _ => kN
      refine InvEndN.intro (nx := (a6.W, instObj 476 a6.WD) :: (a6.WD, wdObj a6) :: (a6.ST, instObj 425 a6.SD) :: (a6.SD, sdObj a6.h1 a6.h2 a6.t1 a6.t2 8 a6.tm NN) :: (NN, listOf (uu ++ [Value.int n8 t8]).toArray (nk + 1)) :: (STO, oS6) :: (S, listOf vs.toArray k) :: news) (by assumption) kN
        ⟨by simp, ⟨uu ++ [Value.int n8 t8], nk + 1, (by rw [List.take_add_one, hn]; exact ints_snoc i6 _ _), rfl⟩, (by intro z hz; exact if_neg hz)⟩ (by rfl)
        (by intro p hp; first | exact hp | exact List.mem_append_left _ hp | exact List.Mem.tail _ hp | (simp only [List.mem_cons, List.mem_append] at hp ⊢; rcases hp with hp | hp | hp | hp | hp | hp | hp | hp <;> simp [hp])) (by intro p hp; first | exact List.Mem.tail _ (List.Mem.tail _ (List.Mem.tail _ (List.Mem.tail _ (List.Mem.tail _ (List.Mem.tail _ (List.Mem.tail _ (List.mem_append_right _ hp))))))) | simp [hp])))
  k_with "call ref" => first
    | ((with_reducible show wpAny _ _ (call (Value.ref 476) _) _ _ _); k_dflt (refine' useHw ?uB ?uF ?uX ?uN ?uT ?uk ?ud ?uu ?_; (case uB => k_asm); (case uF => k_asm); (case uX => k_asm); (case uN => k_asm); (case uT => k_asm); (case uk => exact rfl); (case ud => ktr_room); (case uu => ktr_units); k_whole; intro a6 NN k6 STO GS GSD oS6 gO6 h6 tk6 hW6 w1 w2 w3 w4 w5 w6 w7 hd6 hg6 hgs hsto hcv6 F6 N6; clear hg6 hgs hcv6; have v1 : a6.W < a6.SD := Nat.lt_trans w2 (Nat.lt_trans w3 w4); have v2 : a6.WD < a6.SD := Nat.lt_trans w1 v1; have v3 : a6.SD < NN := Nat.lt_trans w5 w6; have v4 : a6.WD < NN := Nat.lt_trans v2 v3; have v5 : a6.W < NN := Nat.lt_trans v1 v3; have v6 : a6.WD < STO := Nat.lt_trans v4 w7; have v7 : a6.SD < STO := Nat.lt_trans v3 w7; have y1 : a6.W ≠ NN := Nat.ne_of_lt v5; have y2 : a6.WD ≠ NN := Nat.ne_of_lt v4; have y3 : a6.SD ≠ NN := Nat.ne_of_lt v3; clear w2 w3 w4; dsimp only [led] at N6))
    | ((with_reducible show wpAny _ _ (call (Value.ref 394) [_, Value.int n8 _]) _ _ _); (try dsimp only [List.nil_append, List.cons_append]); k_dflt (refine' useN (push_ok ?m1 ?m2 ?U ?hv ?hm ?hs) ?B ?F ?X ?N ?T ?hk ?hd ?hu ?_; (case B => k_asm); (case F => k_asm); (case X => k_asm); (case N => k_asm); (case T => k_asm); (case m1 => k_mem); (case m2 => k_mem); (case hk => exact rfl); (case hd => ktr_room); (case hu => ktr_units); (case U => k_upd); (case hv => exact i6); (case hm => decide); (case hs => omega); k_whole; intro h' tk' F' N'; (try k_sweep)))
    | ((with_reducible show wpAny _ _ (call (Value.ref 548) [_, Value.int 66 _]) _ _ _); (try dsimp only [List.nil_append, List.cons_append]); rename News _ _ _ _ => kN; ((k_dflt (have hv6 : IntsAre uu (zs.take (zs.length - 2) ++ [(zs.getD (-2 + (zs.length : Int)).toNat 0)] ++ [(zs.getD (-1 + (zs.length : Int)).toNat 0)]) := ints_cast i6 hz; have hc8 := fun tc => heard_ok (tc := tc) (w := w) (mean := mean) (mg := mg) (mb := mb) (c := 66) (ys := zs.take (zs.length - 2)) (by rfl) (by k_is) (by omega) (ws_c (zs.take (zs.length - 2)) (zs.getD (-2 + (zs.length : Int)).toNat 0) (zs.getD (-1 + (zs.length : Int)).toNat 0) hl6 66 tc a6 NN uu nk STO oS6 ((S, listOf vs.toArray k) :: news) hv6 hCh hsto w7 (fun p hp => Nat.ne_of_lt (Nat.lt_trans (hno p hp) (by omega))) hd6); refine' useHeard (hc8 _) ?vB ?vF ?vX ?vN ?vT ?vk ?vd ?vu ?_; (case vB => k_asm); (case vF => k_asm); (case vX => k_asm); (case vN => k_asm); (case vT => k_asm); (case vk => exact rfl); (case vd => ktr_room); (case vu => ktr_units); k_whole; intro D5 N7 vs7 k7 rest7 k27 h5 tk5 i7 c7 p7 qd5 F5 N5; refine exK2 p7 fun oS7 t7 e7 hd7 => ?_; subst e7; have hl7 := i7.length; refine chE c7 fun y71 y72 y73 y74 c71 c72 c73 c74 q75 q76 q77 => ?_; dsimp only [led] at N5))))
    | ((with_reducible show wpAny _ _ (call (Value.ref 394) [_, Value.int _ _]) _ _ _); (try dsimp only [List.nil_append, List.cons_append]); (k_dflt (refine' useN (push_ok ?m1 ?m2 ?U ?hv ?hm ?hs) ?B ?F ?X ?N ?T ?hk ?hd ?hu ?_; (case B => k_asm); (case F => k_asm); (case X => k_asm); (case N => k_asm); (case T => k_asm); (case m1 => k_mem); (case m2 => k_mem); (case hk => exact rfl); (case hd => ktr_room); (case hu => ktr_units); (case U => k_upd); (case hv => exact i7); (case hm => decide); (case hs => omega); k_whole; intro h' tk' F' N'; (try k_sweep))))
    | ((with_reducible show wpAny _ _ (call (Value.ref 394) [_, Value.int _ _]) _ _ _); (try dsimp only [List.nil_append, List.cons_append]); (k_dflt (refine' useN (push_ok ?m1 ?m2 ?U ?hv ?hm ?hs) ?B ?F ?X ?N ?T ?hk ?hd ?hu ?_; (case B => k_asm); (case F => k_asm); (case X => k_asm); (case N => k_asm); (case T => k_asm); (case m1 => k_mem); (case m2 => k_mem); (case hk => exact rfl); (case hd => ktr_room); (case hu => ktr_units); (case U => k_upd); (case hv => exact i9); (case hm => decide); (case hs => omega); k_whole; intro h' tk' F' N'; (try k_sweep))))
    | ((with_reducible show wpAny _ _ (call (Value.ref 548) [_, Value.int 67 _]) _ _ _); (try dsimp only [List.nil_append, List.cons_append]); rename News _ _ _ _ => kN; ((k_dflt (have hc8 := fun tc rest0 tX hCh' => heard_ok (tc := tc) (w := w) (mean := mean) (mg := mg) (mb := mb) (c := 67) (ys := (zs.take (zs.length - 2)) ++ [(zs.getD (-1 + (zs.length : Int)).toNat 0)]) (by rfl) (by k_is) (by simp only [List.length_append, List.length_cons, List.length_nil]; omega) (rs_hit (zs.take (zs.length - 2)) (zs.getD (-2 + (zs.length : Int)).toNat 0) (zs.getD (-1 + (zs.length : Int)).toNat 0) t7 [((zs.getD (-2 + (zs.length : Int)).toNat 0), Value.int (zs.getD (-1 + (zs.length : Int)).toNat 0) t7)] (by omega) 67 tc a6 N7 (vs7 ++ [Value.int (zs.getD (-2 + (zs.length : Int)).toNat 0) tX]) (k7 + 1) STO oS7 rest0 (ints_snoc i7 _ _) hCh' hsto (by omega) hd7 (val_hit _ _)); refine' useHeard (hc8 _ _ _ ?ch) ?vB ?vF ?vX (kst_newsOf kN (l_perm1 _ _ _ _ _ _ _ _ _ _ _ _ _ _)) ?vT ?vk ?vd ?vu ?_; (case ch => exact chain_mk c71 c72 c73 c74 (by and_intros <;> first | assumption | omega) q77 (by and_intros <;> omega) (fun p hp => Nat.ne_of_lt (Nat.lt_trans (hno p (List.mem_cons_of_mem _ hp)) (by omega)))); (case vB => k_asm); (case vF => k_asm); (case vX => k_asm); (case vT => k_asm); (case vk => exact rfl); (case vd => ktr_room); (case vu => ktr_units); k_whole; intro D8 N8 vs8 k8 rest8 k28 h5 tk5 i8 c8 p8 qd8 F5 N5; subst p8; refine invK i8 fun vs9 t9 e9 i9 => ?_; subst e9; have hl9 := i9.length; refine sevE c8 fun y81 y82 y83 y84 z80 z81 z82 z83 z84 z85 z86 z87 => ?_; dsimp only [led] at N5))))
    | ((with_reducible show wpAny _ _ (call (Value.ref 548) [_, Value.int 67 _]) _ _ _); (try dsimp only [List.nil_append, List.cons_append]); rename News _ _ _ _ => kN; ((k_dflt (have hc8 := fun tc rest0 tX kk hCh' => heard_ok (tc := tc) (w := w) (mean := mean) (mg := mg) (mb := mb) (c := 67) (ys := (zs.take (zs.length - 2)) ++ [0]) (by rfl) (by k_is) (by simp only [List.length_append, List.length_cons, List.length_nil]; omega) (rs_miss (zs.take (zs.length - 2)) ((zs.getD (-2 + (zs.length : Int)).toNat 0) + 1) 0 t7 [((zs.getD (-2 + (zs.length : Int)).toNat 0), Value.int (zs.getD (-1 + (zs.length : Int)).toNat 0) t7)] (by omega) 67 tc a6 N8 (vs9 ++ [Value.int ((zs.getD (-2 + (zs.length : Int)).toNat 0) + 1) tX]) kk STO oS7 rest0 (ints_snoc i9 _ _) hCh' hsto (by omega) hd7 (val_miss _ _)); refine' useHeard (hc8 _ _ _ _ ?ch) ?vB ?vF ?vX (kst_newsOf kN (l_perm3 _ _ _ _ _ _ _ _ _ _ _ _)) ?vT ?vk ?vd ?vu ?_; (case ch => exact chain_two c8); (case vB => k_asm); (case vF => k_asm); (case vX => k_asm); (case vT => k_asm); (case vk => exact rfl); (case vd => ktr_room); (case vu => ktr_units); k_whole; intro D10 N10 vs10 k10 rest10 k210 h5 tk5 i10 c10 p10 qd10 F5 N5; subst p10; refine invK i10 fun vs11 t11 e11 i11 => ?_; subst e11; have hl11 := i11.length; refine sevE c10 fun y101 y102 y103 y104 z100 z101 z102 z103 z104 z105 z106 z107 => ?_; dsimp only [led] at N5))))
    | ((with_reducible show wpAny _ _ (call (Value.ref 401) _) _ _ _); (try dsimp only [List.nil_append, List.cons_append]); (k_dflt (refine' useV (g := fun t => Value.int _ t) (pop_ok ?m1 ?m2 ?U ?hv ?hs) ?B ?F ?X ?N ?T ?hk ?hd ?hu ?_; (case B => k_asm); (case F => k_asm); (case X => k_asm); (case N => k_asm); (case T => k_asm); (case m1 => k_mem); (case m2 => k_mem); (case hk => exact rfl); (case hd => ktr_room); (case hu => ktr_units); (case U => k_upd); (case hv => exact i11); (case hs => omega); k_whole; intro t' h' tk' F' N'; (try k_sweep))))
    | ((with_reducible show wpAny _ _ (call (Value.ref 401) _) _ _ _); (try dsimp only [List.nil_append, List.cons_append]); (k_dflt (refine' useV (g := fun t => Value.int _ t) (pop_ok ?m1 ?m2 ?U ?hv ?hs) ?B ?F ?X ?N ?T ?hk ?hd ?hu ?_; (case B => k_asm); (case F => k_asm); (case X => k_asm); (case N => k_asm); (case T => k_asm); (case m1 => k_mem); (case m2 => k_mem); (case hk => exact rfl); (case hd => ktr_room); (case hu => ktr_units); (case U => k_upd); (case hv => exact i9); (case hs => omega); k_whole; intro t' h' tk' F' N'; (try k_sweep))))
  k_steps
  all_goals (rename News _ _ _ _ => kN; exact hret _ _ _ _ (by k_asm) (kst_newsOf kN (by intro p hp; first | exact hp | exact List.Mem.tail _ hp | exact List.Mem.tail _ (List.Mem.tail _ hp) | exact List.Mem.tail _ (List.Mem.tail _ (List.Mem.tail _ hp)) | exact List.Mem.tail _ (List.Mem.tail _ (List.Mem.tail _ (List.Mem.tail _ hp))) | exact List.Mem.tail _ (List.Mem.tail _ (List.Mem.tail _ (List.Mem.tail _ (List.Mem.tail _ hp)))) | exact List.Mem.tail _ (List.Mem.tail _ (List.Mem.tail _ (List.Mem.tail _ (List.Mem.tail _ (List.Mem.tail _ hp))))) | exact List.Mem.tail _ (List.Mem.tail _ (List.Mem.tail _ (List.Mem.tail _ (List.Mem.tail _ (List.Mem.tail _ (List.Mem.tail _ hp)))))) | exact List.Mem.tail _ (List.Mem.tail _ (List.Mem.tail _ (List.Mem.tail _ (List.Mem.tail _ (List.Mem.tail _ (List.Mem.tail _ (List.Mem.tail _ hp))))))) | (simp only [List.mem_cons] at hp ⊢; rcases hp with hp | hp <;> simp [hp]))) ⟨rfl, rfl⟩)
end
end

section
open PySem PySem.W PyProof.Rows PySem.Calls PySem.Spec
theorem kwValues : True := by
  k_with_none
  w_top off
  trivial
theorem kwValues_1 : True := by
  k_with_none
  k_with "storeName" => ((k_dflt (refine' storeL ?F ?N ?a ?b ?_; (case F => k_asm); (case N => k_asm); (case a => rfl); (case b => rfl); k_whole; intro mszz hszz tszz Fszz Nszz; (try k_sweep))))
  k_with "leaveF" => ((k_dflt (first | (refine' leaveF_ret ?k1 ?k2 ?_; (case k1 => k_asm); (case k2 => k_asm); k_whole) | (refine' leaveF_next ?k1 ?k2 ?_; (case k1 => k_asm); (case k2 => k_asm); k_whole)); intro kFlzz kNlzz; ground_anew kFlzz))
  trivial
noncomputable abbrev hnd (a b c k : Nat) : Obj := listOf #[Value.int 100 a, Value.int 200 b, Value.int 300 c] k
theorem unr_end_a {h₀ : Heap} {L I : Addr} {it : Obj} {rest : (Str → Option Value) → List (Addr × Obj) → Prop} {s₁ : Shared} {h' : Heap} {tk : Nat} {m' : Str → Option Value} {X : Nat} {ox : Obj} {y : Addr × Obj} {l : List (Addr × Obj)} (F : Fr h₀ L h' m') (N : News h₀ L h' ((X, ox) :: y :: (I, it) :: l)) (hx : X ≠ I) (off : ∀ p ∈ l, p.1 ≠ I) (r : rest m' ((X, ox) :: l)) :
    UnrEnd h₀ L s₁ I it rest { s₁ with heap := h', toks := tk } :=
  ⟨h', tk, m', (X, ox) :: l, rfl, F, fun p hp => N p (by simp only [List.mem_cons] at hp ⊢; rcases hp with hp | hp | hp <;> simp [hp]), fun p hp => by
    rcases List.mem_cons.mp hp with q | q
    · rw [q]; exact hx
    · exact off p q, r⟩
theorem off_raw {I : Nat} {l l0 : List (Addr × Obj)} (h : ∀ p ∈ l0, p.1 < I) (e : l.map (·.1) = l0.map (·.1)) : ∀ p ∈ l, p.1 ≠ I := fun p hp => by
  have : p.1 ∈ l0.map (·.1) := e ▸ List.mem_map_of_mem hp
  obtain ⟨q, hq, e2⟩ := List.mem_map.mp this
  rw [← e2]; exact Nat.ne_of_lt (h q hq)
theorem off_cons {I X : Nat} {ox : Obj} {l : List (Addr × Obj)} (hx : X ≠ I) (h : ∀ p ∈ l, p.1 ≠ I) : ∀ p ∈ (X, ox) :: l, p.1 ≠ I := fun p hp => by
  rcases List.mem_cons.mp hp with q | q
  · rw [q]; exact hx
  · exact h p q
theorem off_w {I : Nat} {o : Obj} {l : List (Addr × Obj)} (h : ∀ p ∈ l, p.1 ≠ I) : ∀ p ∈ l, ∀ q ∈ [((I, o) : Addr × Obj)], p.1 ≠ q.1 := fun p hp q hq => by
  rw [List.mem_singleton.mp hq]; exact h p hp
theorem getD3 {f m x : Int} (f0 : 0 ≤ f) (f1 : f < (([m, m, x] : List Int).length : Int)) (hm : 0 ≤ m ∧ m < 16) (hx : 0 ≤ x ∧ x < 16) : 0 ≤ ([m, m, x] : List Int).getD f.toNat 0 ∧ ([m, m, x] : List Int).getD f.toNat 0 < 16 := by
  have : f = 0 ∨ f = 1 ∨ f = 2 := by simp only [List.length_cons, List.length_nil] at f1; (first | lia | omega)
  rcases this with rfl | rfl | rfl
  · exact hm
  · exact hm
  · exact hx
noncomputable def valS (ns : List Int) (pl ar m : Int) : List Int := if Int.fdiv ar 16 = m then ns.set pl.toNat (ns.getD pl.toNat 0 + 8 * (if Int.fmod ar 16 < 8 then Int.fmod ar 16 - 8 else Int.fmod ar 16 - 7)) else ns
section
variable {ns : List Int} {us : List Value} {pl ar m c : Int}
theorem js1 (h : Int.fdiv ar 16 = m) (h2 : Int.fmod ar 16 < 8) (i : IntsAre us (ns.set pl.toNat (ns.getD pl.toNat 0 + 8 * (Int.fmod ar 16 - 8)))) : IntsAre us (valS ns pl ar m) := by rw [valS, if_pos h, if_pos h2]; exact i
theorem js2 (h : Int.fdiv ar 16 = m) (h2 : ¬ Int.fmod ar 16 < 8) (i : IntsAre us (ns.set pl.toNat (ns.getD pl.toNat 0 + 8 * (Int.fmod ar 16 - 7)))) : IntsAre us (valS ns pl ar m) := by rw [valS, if_pos h, if_neg h2]; exact i
theorem js3 (h : Int.fdiv ar 16 ≠ m) (i : IntsAre us ns) : IntsAre us (valS ns pl ar m) := by rw [valS, if_neg h]; exact i
theorem set_same (ns : List Int) (i : Nat) : ns.set i (ns.getD i 0 + 0) = ns := by
  rw [Int.add_zero]
  apply List.ext_getElem?
  intro j
  rw [List.getElem?_set]
  split
  · rename_i h
    subst h
    split
    · rename_i h2
      simp [List.getD_eq_getElem?_getD, h2]
    · rename_i h2
      simp; (first | lia | omega)
  · rfl
theorem val_delta (hm : 0 ≤ m ∧ m < 16) (ha : 0 ≤ ar ∧ ar < 256) : ns.set pl.toNat (ns.getD pl.toNat 0 + deltaS (9 + 16 * (c - 115) + m) ar (16 * (c - 115))) = valS ns pl ar m := by
  have e1 : Int.fmod (Int.fdiv ar 16) 16 = Int.fdiv ar 16 := by
    rw [Int.fmod_eq_emod_of_nonneg _ (by decide), Int.fdiv_eq_ediv_of_nonneg _ (by decide)]; (first | lia | omega)
  unfold deltaS valS
  rw [e1]
  by_cases h : Int.fdiv ar 16 = m
  · rw [if_neg (by (first | lia | omega)), if_pos h]
    congr 2
    split <;> split <;> (first | lia | omega)
  · rw [if_pos (by (first | lia | omega)), if_neg h, set_same]
end
/-- behind an if that may store in a list, both ways told as one -/
noncomputable def JoinR (g : Heap) (L : Addr) (m : Str → Option Value) (gg : Obj → List (Addr × Obj)) (kv : Nat) (zs : List Int) (s₁ : Shared) (f : Flow) (s₂ : Shared) : Prop :=
  f = .next ∧ ∃ (vv : List Value) (h : Heap) (tk : Nat), s₂ = { s₁ with heap := h, toks := tk } ∧ Fr g L h m ∧ News g L h (gg (listOf vv.toArray kv)) ∧ IntsAre vv zs
theorem join_if {M : Model} {A : Around} {E : Value → Shared → Prop} {Q : Flow → Shared → Prop} {s : Shared} {st : Stmt} {env : Env} {g : Heap} {L : Addr} {mm : Str → Option Value} {news : List (Addr × Obj)} {gg : Obj → List (Addr × Obj)} {V kv : Nat} {vvs : List Value} {ns : List Int} {pl ar me : Int} {t1 t2 t3 : Tok}
    (_F : Fr g L s.heap mm) (_hpl : mm (Str.ofString "place") = some (.int pl t1)) (_har : mm (Str.ofString "argument") = some (.int ar t2)) (_hme : mm (Str.ofString "meant") = some (.int me t3)) (_hv : mm (Str.ofString "values") = some (.ref V)) (_N : News g L s.heap news) (_U : UpdF V (listOf vvs.toArray kv) news gg) (_i : IntsAre vvs ns) (hl3 : ns.length = 3)
    (h1 : wpAny M A (exec st env) (JoinR g L mm gg kv (valS ns pl ar me) s) E s)
    (h2 : ∀ vv h tk, Fr g L h mm → News g L h (gg (listOf vv.toArray kv)) → IntsAre vv (valS ns pl ar me) → (valS ns pl ar me).length = 3 → Q .next { s with heap := h, toks := tk }) : wpAny M A (exec st env) Q E s :=
  wpAny_mono h1 (fun f s' p => by
    obtain ⟨rfl, vv, h, tk, rfl, F, N, i⟩ := p
    exact h2 vv h tk F N i (by unfold valS; split <;> simp [hl3])) fun _ _ e => e
theorem off5 {a b c d I : Nat} {rest : List (Addr × Obj)} (H : a < I ∧ b < I ∧ c < I ∧ d < I ∧ AllLt I rest) : ∀ p ∈ rest, p.1 ≠ I := fun p hp => Nat.ne_of_lt (kst_ltOf H.2.2.2.2 p hp)
theorem chain_v {a : WA} {N STO GS GSD CV V S : Nat} {o1 o2 o3 o4 o5 o6 : Obj} {news : List (Addr × Obj)} (w1 : a.WD < a.W) (w2 : a.W < GSD) (w3 : GSD < GS) (w4 : GS < a.SD) (w5 : a.SD < a.ST) (w6 : a.ST < N) (w7 : N < STO) (q1 : CV < a.WD) (q2 : V < a.WD) (q3 : S < a.WD) (q4 : ∀ p ∈ news, p.1 < a.WD) :
    Chain a N ((STO, o1) :: (GS, o2) :: (GSD, o3) :: (CV, o4) :: (V, o5) :: (S, o6) :: news) := by
  refine ⟨w1, by (first | lia | omega), w5, w6, ?_, ?_⟩ <;> simp only [List.forall_mem_cons]
  · exact ⟨Nat.ne_of_gt w7, Nat.ne_of_lt (by (first | lia | omega)), Nat.ne_of_lt (by (first | lia | omega)), Nat.ne_of_lt (by (first | lia | omega)), Nat.ne_of_lt (by (first | lia | omega)), Nat.ne_of_lt (by (first | lia | omega)), fun p hp => Nat.ne_of_lt (Nat.lt_trans (q4 p hp) (by (first | lia | omega)))⟩
  · exact ⟨Nat.ne_of_gt (by (first | lia | omega)), Nat.ne_of_lt w4, Nat.ne_of_lt (by (first | lia | omega)), Nat.ne_of_lt (by (first | lia | omega)), Nat.ne_of_lt (by (first | lia | omega)), Nat.ne_of_lt (by (first | lia | omega)), fun p hp => Nat.ne_of_lt (Nat.lt_trans (q4 p hp) (by (first | lia | omega)))⟩
/-- what the loops of the values part need not see -/
structure VF (aa : WA) (NN STO GS GSD CV V S : Nat) (oS gO : Obj) (cvs : List Value) (rest news : List (Addr × Obj)) : Prop where
  hr : rest = (aa.W, instObj 476 aa.WD) :: (aa.WD, wdObj aa) :: (aa.ST, instObj 425 aa.SD) :: (aa.SD, sdObj aa.h1 aa.h2 aa.t1 aa.t2 8 aa.tm NN) :: (STO, oS) :: (GS, instObj 369 GSD) :: (GSD, gO) :: (CV, listOf cvs.toArray 0) :: news
  w1 : aa.WD < aa.W
  w2 : aa.W < GSD
  w3 : GSD < GS
  w4 : GS < aa.SD
  w5 : aa.SD < aa.ST
  w6 : aa.ST < NN
  w7 : NN < STO
  q1 : CV < aa.WD
  q2 : V < aa.WD
  q3 : S < aa.WD
  qn : ∀ p ∈ news, p.1 < aa.WD
  nc : ∀ o o', ∀ p ∈ (V, o) :: (S, o') :: news, p.1 ≠ CV
theorem five {a b c d e : Addr × Obj} {news : List (Addr × Obj)} {W : Nat} {G : Prop} (h : ∀ p ∈ a :: b :: c :: d :: e :: news, p.1 < W) (k : @LT.lt Nat _ a.1 W → @LT.lt Nat _ b.1 W → @LT.lt Nat _ c.1 W → @LT.lt Nat _ d.1 W → @LT.lt Nat _ e.1 W → (∀ p ∈ news, p.1 < W) → G) : G :=
  k (h _ (.head _)) (h _ (.tail _ (.head _))) (h _ (.tail _ (.tail _ (.head _)))) (h _ (.tail _ (.tail _ (.tail _ (.head _))))) (h _ (.tail _ (.tail _ (.tail _ (.tail _ (.head _)))))) fun p hp => h p (.tail _ (.tail _ (.tail _ (.tail _ (.tail _ hp)))))
theorem hide_v {G : Prop} {h₀ h : Heap} {L : Addr} {d : Addr × Obj} {aa : WA} {NN STO GS GSD CV V S R0 Z D1 kr kn : Nat} {oS gO oSrc oz o1 : Obj} {ta tb tc ta' tb' tc' : Nat} {news : List (Addr × Obj)}
    (N : News h₀ L h (d :: (R0, listOf #[] kr) :: (aa.W, instObj 476 aa.WD) :: (aa.WD, wdObj aa) :: (aa.ST, instObj 425 aa.SD) :: (aa.SD, sdObj aa.h1 aa.h2 aa.t1 aa.t2 8 aa.tm NN) :: (NN, listOf #[] kn) :: (STO, oS) :: (GS, instObj 369 GSD) :: (GSD, gO) :: (CV, hnd ta tb tc 0) :: (Z, oz) :: (D1, o1) :: (V, hnd ta' tb' tc' 0) :: (S, oSrc) :: news))
    (w1 : aa.WD < aa.W) (w2 : aa.W < GSD) (w3 : GSD < GS) (w4 : GS < aa.SD) (w5 : aa.SD < aa.ST) (w6 : aa.ST < NN) (w7 : NN < STO) (q1 : CV < aa.WD) (q2 : V < aa.WD) (q3 : S < aa.WD) (qn : ∀ p ∈ news, p.1 < aa.WD) (hS : ∀ p ∈ news, p.1 ≠ S)
    (lR : aa.W < R0 ∧ aa.WD < R0 ∧ aa.ST < R0 ∧ aa.SD < R0 ∧ NN < R0 ∧ STO < R0 ∧ GS < R0 ∧ GSD < R0 ∧ CV < R0 ∧ Z < R0 ∧ D1 < R0 ∧ V < R0 ∧ S < R0 ∧ AllLt R0 news)
    (lC : Z < CV ∧ D1 < CV ∧ V < CV ∧ S < CV ∧ AllLt CV news) (lV : S < V ∧ AllLt V news)
    (K : ∀ (cvs vvs : List Value) (rest : List (Addr × Obj)), IntsAre cvs [100, 200, 300] → IntsAre vvs [100, 200, 300] → VF aa NN STO GS GSD CV V S oS gO cvs rest news →
      (aa.W, instObj 476 aa.WD) ∈ rest → (aa.WD, wdObj aa) ∈ rest → (aa.ST, instObj 425 aa.SD) ∈ rest → (aa.SD, sdObj aa.h1 aa.h2 aa.t1 aa.t2 8 aa.tm NN) ∈ rest →
      (∀ p ∈ rest, p.1 ≠ S) → (∀ p ∈ rest, p.1 ≠ R0) → (∀ p ∈ rest, p.1 ≠ NN) → (∀ p ∈ rest, p.1 ≠ V) → R0 ≠ S → NN ≠ S → V ≠ S → NN ≠ R0 → V ≠ R0 → V ≠ NN →
      News h₀ L h ((S, oSrc) :: (R0, listOf (List.toArray []) kr) :: (NN, listOf (List.toArray []) kn) :: (V, listOf vvs.toArray 0) :: rest) → G) : G := by
  obtain ⟨r1, r2, r3, r4, r5, r6, r7, r8, r9, -, -, r12, r13, r14⟩ := lR
  obtain ⟨-, -, c3, c4, c5⟩ := lC
  obtain ⟨v1, v2⟩ := lV
  refine K [Value.int 100 ta, Value.int 200 tb, Value.int 300 tc] [Value.int 100 ta', Value.int 200 tb', Value.int 300 tc'] _ (.cons _ _ (.cons _ _ (.cons _ _ .nil))) (.cons _ _ (.cons _ _ (.cons _ _ .nil))) ⟨rfl, w1, w2, w3, w4, w5, w6, w7, q1, q2, q3, qn, fun o o' => all1 (Nat.ne_of_lt c3) (all1 (Nat.ne_of_lt c4) fun p hp => Nat.ne_of_lt (kst_ltOf c5 p hp))⟩ (.head _) (.tail _ (.head _)) (.tail _ (.tail _ (.head _))) (.tail _ (.tail _ (.tail _ (.head _)))) ?_ ?_ ?_ ?_ (Nat.ne_of_gt r13) (Nat.ne_of_gt (by (first | lia | omega))) (Nat.ne_of_gt v1) (Nat.ne_of_lt r5) (Nat.ne_of_lt r12) (Nat.ne_of_lt (by (first | lia | omega))) ?_
  · simp only [List.forall_mem_cons]
    exact ⟨Nat.ne_of_gt (by (first | lia | omega)), Nat.ne_of_gt (by (first | lia | omega)), Nat.ne_of_gt (by (first | lia | omega)), Nat.ne_of_gt (by (first | lia | omega)), Nat.ne_of_gt (by (first | lia | omega)), Nat.ne_of_gt (by (first | lia | omega)), Nat.ne_of_gt (by (first | lia | omega)), Nat.ne_of_gt c4, hS⟩
  · simp only [List.forall_mem_cons]
    exact ⟨Nat.ne_of_lt r1, Nat.ne_of_lt r2, Nat.ne_of_lt r3, Nat.ne_of_lt r4, Nat.ne_of_lt r6, Nat.ne_of_lt r7, Nat.ne_of_lt r8, Nat.ne_of_lt r9, fun p hp => Nat.ne_of_lt (kst_ltOf r14 p hp)⟩
  · simp only [List.forall_mem_cons]
    exact ⟨Nat.ne_of_lt (by (first | lia | omega)), Nat.ne_of_lt (by (first | lia | omega)), Nat.ne_of_lt w6, Nat.ne_of_lt (by (first | lia | omega)), Nat.ne_of_gt w7, Nat.ne_of_lt (by (first | lia | omega)), Nat.ne_of_lt (by (first | lia | omega)), Nat.ne_of_lt (by (first | lia | omega)), fun p hp => Nat.ne_of_lt (Nat.lt_trans (qn p hp) (by (first | lia | omega)))⟩
  · simp only [List.forall_mem_cons]
    exact ⟨Nat.ne_of_gt (by (first | lia | omega)), Nat.ne_of_gt q2, Nat.ne_of_gt (by (first | lia | omega)), Nat.ne_of_gt (by (first | lia | omega)), Nat.ne_of_gt (by (first | lia | omega)), Nat.ne_of_gt (by (first | lia | omega)), Nat.ne_of_gt (by (first | lia | omega)), Nat.ne_of_gt c3, fun p hp => Nat.ne_of_lt (kst_ltOf v2 p hp)⟩
  · refine List.forall_mem_cons.mpr ⟨N _ (.tail _ (.tail _ (.tail _ (.tail _ (.tail _ (.tail _ (.tail _ (.tail _ (.tail _ (.tail _ (.tail _ (.tail _ (.tail _ (.tail _ (.head _))))))))))))))), List.forall_mem_cons.mpr ⟨N _ (.tail _ (.head _)), List.forall_mem_cons.mpr ⟨N _ (.tail _ (.tail _ (.tail _ (.tail _ (.tail _ (.tail _ (.head _))))))), List.forall_mem_cons.mpr ⟨N _ (.tail _ (.tail _ (.tail _ (.tail _ (.tail _ (.tail _ (.tail _ (.tail _ (.tail _ (.tail _ (.tail _ (.tail _ (.tail _ (.head _)))))))))))))), List.forall_mem_cons.mpr ⟨N _ (.tail _ (.tail _ (.head _))), List.forall_mem_cons.mpr ⟨N _ (.tail _ (.tail _ (.tail _ (.head _)))), List.forall_mem_cons.mpr ⟨N _ (.tail _ (.tail _ (.tail _ (.tail _ (.head _))))), List.forall_mem_cons.mpr ⟨N _ (.tail _ (.tail _ (.tail _ (.tail _ (.tail _ (.head _)))))), List.forall_mem_cons.mpr ⟨N _ (.tail _ (.tail _ (.tail _ (.tail _ (.tail _ (.tail _ (.tail _ (.head _)))))))), List.forall_mem_cons.mpr ⟨N _ (.tail _ (.tail _ (.tail _ (.tail _ (.tail _ (.tail _ (.tail _ (.tail _ (.head _))))))))), List.forall_mem_cons.mpr ⟨N _ (.tail _ (.tail _ (.tail _ (.tail _ (.tail _ (.tail _ (.tail _ (.tail _ (.tail _ (.head _)))))))))), List.forall_mem_cons.mpr ⟨N _ (.tail _ (.tail _ (.tail _ (.tail _ (.tail _ (.tail _ (.tail _ (.tail _ (.tail _ (.tail _ (.head _))))))))))), fun p hp => N p (.tail _ (.tail _ (.tail _ (.tail _ (.tail _ (.tail _ (.tail _ (.tail _ (.tail _ (.tail _ (.tail _ (.tail _ (.tail _ (.tail _ (.tail _ (hp))))))))))))))))⟩⟩⟩⟩⟩⟩⟩⟩⟩⟩⟩⟩
theorem show_v {h₀ h : Heap} {L : Addr} {aa : WA} {NN STO GS GSD CV V S : Nat} {oS gO o1 o4 : Obj} {cvs vs : List Value} {k : Nat} {rest news : List (Addr × Obj)} (vf : VF aa NN STO GS GSD CV V S oS gO cvs rest news) (n1 : News h₀ L h [(S, o1)]) (n2 : News h₀ L h [(NN, listOf vs.toArray k)]) (n3 : News h₀ L h [(V, o4)]) (N : News h₀ L h rest) :
    News h₀ L h (led aa NN vs k ((STO, oS) :: (GS, instObj 369 GSD) :: (GSD, gO) :: (CV, listOf cvs.toArray 0) :: (V, o4) :: (S, o1) :: news)) := by
  obtain rfl := vf.hr
  exact List.forall_mem_cons.mpr ⟨N _ (.head _), List.forall_mem_cons.mpr ⟨N _ (.tail _ (.head _)), List.forall_mem_cons.mpr ⟨N _ (.tail _ (.tail _ (.head _))), List.forall_mem_cons.mpr ⟨N _ (.tail _ (.tail _ (.tail _ (.head _)))), List.forall_mem_cons.mpr ⟨n2 _ (.head _), List.forall_mem_cons.mpr ⟨N _ (.tail _ (.tail _ (.tail _ (.tail _ (.head _))))), List.forall_mem_cons.mpr ⟨N _ (.tail _ (.tail _ (.tail _ (.tail _ (.tail _ (.head _)))))), List.forall_mem_cons.mpr ⟨N _ (.tail _ (.tail _ (.tail _ (.tail _ (.tail _ (.tail _ (.head _))))))), List.forall_mem_cons.mpr ⟨N _ (.tail _ (.tail _ (.tail _ (.tail _ (.tail _ (.tail _ (.tail _ (.head _)))))))), List.forall_mem_cons.mpr ⟨n3 _ (.head _), List.forall_mem_cons.mpr ⟨n1 _ (.head _), fun p hp => N p (.tail _ (.tail _ (.tail _ (.tail _ (.tail _ (.tail _ (.tail _ (.tail _ (hp)))))))))⟩⟩⟩⟩⟩⟩⟩⟩⟩⟩⟩
theorem show_v2 {h₀ h : Heap} {L : Addr} {x z t1 : Addr × Obj} {aa : WA} {NN STO GS GSD CV V S : Nat} {oS gO o1 o4 : Obj} {cvs vs : List Value} {k : Nat} {rest news : List (Addr × Obj)} (vf : VF aa NN STO GS GSD CV V S oS gO cvs rest news) (N : News h₀ L h (x :: (S, o1) :: z :: (NN, listOf vs.toArray k) :: (V, o4) :: t1 :: rest)) :
    News h₀ L h (led aa NN vs k ((STO, oS) :: (GS, instObj 369 GSD) :: (GSD, gO) :: (CV, listOf cvs.toArray 0) :: (V, o4) :: (S, o1) :: news)) := show_v vf (fun p hp => (List.mem_singleton.mp hp) ▸ N _ (.tail _ (.head _))) (fun p hp => (List.mem_singleton.mp hp) ▸ N _ (.tail _ (.tail _ (.tail _ (.head _))))) (fun p hp => (List.mem_singleton.mp hp) ▸ N _ (.tail _ (.tail _ (.tail _ (.tail _ (.head _)))))) (fun p hp => N p (.tail _ (.tail _ (.tail _ (.tail _ (.tail _ (.tail _ (hp))))))))
theorem show_v3 {h₀ h : Heap} {L : Addr} {x z t1 t2 : Addr × Obj} {aa : WA} {NN STO GS GSD CV V S : Nat} {oS gO o1 o4 : Obj} {cvs vs : List Value} {k : Nat} {rest news : List (Addr × Obj)} (vf : VF aa NN STO GS GSD CV V S oS gO cvs rest news) (N : News h₀ L h (x :: (S, o1) :: z :: (NN, listOf vs.toArray k) :: (V, o4) :: t1 :: t2 :: rest)) :
    News h₀ L h (led aa NN vs k ((STO, oS) :: (GS, instObj 369 GSD) :: (GSD, gO) :: (CV, listOf cvs.toArray 0) :: (V, o4) :: (S, o1) :: news)) := show_v vf (fun p hp => (List.mem_singleton.mp hp) ▸ N _ (.tail _ (.head _))) (fun p hp => (List.mem_singleton.mp hp) ▸ N _ (.tail _ (.tail _ (.tail _ (.head _))))) (fun p hp => (List.mem_singleton.mp hp) ▸ N _ (.tail _ (.tail _ (.tail _ (.tail _ (.head _)))))) (fun p hp => N p (.tail _ (.tail _ (.tail _ (.tail _ (.tail _ (.tail _ (.tail _ (hp)))))))))
theorem chain_vf {aa : WA} {NN STO GS GSD CV V S : Nat} {oS gO o1 o4 : Obj} {cvs : List Value} {rest news : List (Addr × Obj)} (vf : VF aa NN STO GS GSD CV V S oS gO cvs rest news) :
    Chain aa NN ((STO, oS) :: (GS, instObj 369 GSD) :: (GSD, gO) :: (CV, listOf cvs.toArray 0) :: (V, o4) :: (S, o1) :: news) := chain_v vf.w1 vf.w2 vf.w3 vf.w4 vf.w5 vf.w6 vf.w7 vf.q1 vf.q2 vf.q3 vf.qn
theorem hideF {g h : Heap} {L : Addr} {m : Str → Option Value} {v1 v2 v3 v4 v5 : Value} {G : Prop} (F : Fr g L h m) (h1 : m (Str.ofString "code") = some v1) (h2 : m (Str.ofString "values") = some v2) (h3 : m (Str.ofString "work") = some v3) (h4 : m (Str.ofString "rows") = some v4) (h5 : m (Str.ofString "meant") = some v5)
    (K : ∀ mm : Str → Option Value, mm (Str.ofString "code") = some v1 → mm (Str.ofString "values") = some v2 → mm (Str.ofString "work") = some v3 → mm (Str.ofString "rows") = some v4 → mm (Str.ofString "meant") = some v5 → Fr g L h mm → G) : G := K m h1 h2 h3 h4 h5 F
theorem cutFor {M : Model} {A : Around} {E : Value → Shared → Prop} {env : Env} {Q : Flow → Shared → Prop} {s : Shared} {t i : PySem.Expr} {b o : List Stmt} {p : Pos} (P : Model → Around → Env → List Stmt → Prop) (hP : P M A env b) (k : P M A env b → wpAny M A (exec (.For t i b o p) env) Q E s) : wpAny M A (exec (.For t i b o p) env) Q E s := k hP
noncomputable abbrev tupO (a b : Int) (t u : Tok) : Obj := { cls := .type "tuple", data := .seq #[.int a t, .int b u] }
theorem unr_end_c {h₀ : Heap} {L I : Addr} {it : Obj} {rest : (Str → Option Value) → List (Addr × Obj) → Prop} {s₁ : Shared} {h' : Heap} {tk : Nat} {m' : Str → Option Value} {X : Nat} {ox : Obj} {a b c d : Addr × Obj} {l : List (Addr × Obj)} (F : Fr h₀ L h' m') (N : News h₀ L h' ((X, ox) :: (I, it) :: a :: b :: c :: d :: l)) (hx : X ≠ I) (off : ∀ p ∈ a :: b :: c :: d :: l, p.1 ≠ I) (r : rest m' (a :: b :: c :: d :: (X, ox) :: l)) :
    UnrEnd h₀ L s₁ I it rest { s₁ with heap := h', toks := tk } :=
  ⟨h', tk, m', a :: b :: c :: d :: (X, ox) :: l, rfl, F, fun p hp => N p (by simp only [List.mem_cons] at hp ⊢; rcases hp with hp | hp | hp | hp | hp | hp | hp <;> simp [hp]), fun p hp => by
    simp only [List.mem_cons] at hp
    rcases hp with q | q | q | q | q | q
    · exact off p (by simp [q])
    · exact off p (by simp [q])
    · exact off p (by simp [q])
    · exact off p (by simp [q])
    · rw [q]; exact hx
    · exact off p (by simp [q]), r⟩
theorem off_mid {I : Nat} {a b c d t : Addr × Obj} {l : List (Addr × Obj)} (h : ∀ p ∈ a :: b :: c :: d :: l, p.1 ≠ I) (ht : t.1 ≠ I) : ∀ p ∈ a :: b :: c :: d :: t :: l, p.1 ≠ I := fun p hp => by
  simp only [List.mem_cons] at hp
  rcases hp with q | q | q | q | q | q
  · exact h p (by simp [q])
  · exact h p (by simp [q])
  · exact h p (by simp [q])
  · exact h p (by simp [q])
  · rw [q]; exact ht
  · exact h p (by simp [q])
section
variable {w : World} {mean : ExcName → Option Value} {mg mb : Str → Option Value}
theorem kwValues_2 : True := by
  k_with_none
  k_with "storeName" => ((k_dflt (refine' storeL ?F ?N ?a ?b ?_; (case F => k_asm); (case N => k_asm); (case a => rfl); (case b => rfl); k_whole; intro mszz hszz tszz Fszz Nszz; (try k_sweep))))
  k_with "leaveF" => ((k_dflt (first | (refine' leaveF_ret ?k1 ?k2 ?_; (case k1 => k_asm); (case k2 => k_asm); k_whole) | (refine' leaveF_next ?k1 ?k2 ?_; (case k1 => k_asm); (case k2 => k_asm); k_whole)); intro kFlzz kNlzz; ground_anew kFlzz))
  k_with "ktr_room" => (((try dsimp only [depth_under_make, depth_under_kw, depth_in1, depth_deeper]); first | exact room1 (by assumption) (by decide) | exact room2 (by assumption) (by decide) | exact room0 (by assumption) | exact room3 (by assumption) (by decide) | exact room4 (by assumption) (by decide)))
  k_with "ktr_units" => (((try dsimp only [units_under_make, units_in1, units_deeper, Around.mark_units]); first | exact room1 (by assumption) (by decide) | exact room2 (by assumption) (by decide) | exact room0 (by assumption) | exact room3 (by assumption) (by decide) | exact room4 (by assumption) (by decide)))
  k_with "k_ne" => ((refine neN ?_; (try dsimp only); first | assumption | exact Ne.symm (by assumption) | exact Nat.ne_of_gt (by assumption) | exact Nat.ne_of_lt (by assumption) | exact neP1 (by assumption) | exact neP2 (by assumption) | exact neP3 (by assumption) | exact neP4 (by assumption) | exact neP5 (by assumption)))
  k_with "k_mem" => (first | assumption | exact List.Mem.head _ | (refine' List.Mem.tail _ ?_; k_mem))
  k_with "k_all" => (first | assumption | (refine all1 ?_ (by assumption); k_ne) | (refine all2 ?_ ?_ (by assumption) <;> k_ne) | (refine all3 ?_ ?_ ?_ (by assumption) <;> k_ne))
  k_with "execs cons" => (((with_reducible show wpAny _ _ _ _ _ (PySem.Shared.mk _ _ _ (_ + 1) _)); refine genToks ?_; intro tk9zz))
  k_with "eval Constant int" => ((refine constG ?_; intro t9zz tk9zz))
  k_with "ke_room" => (ktr_units)
  k_with "k_room" => (((try simp only [depth_under_make, depth_under_kw, depth_in1]); ktr_room))
  trivial
theorem values_c (c : Int) (tc : Tok) (hcc : c = 115 ∨ c = 116 ∨ c = 117) (S : Nat) (s0 s1 : Int) (t0 t1 k : Nat) (h0 : 0 ≤ s0) (h1 : 0 ≤ s1 ∧ s1 < 2147483647) (news : List (Addr × Obj)) (hS : ∀ p ∈ news, p.1 ≠ S) :
    CbM w mean mg mb 569 200 9000 ((S, srcO s0 s1 t0 t1 k) :: news) [.ref S, .int c tc] (fun n' r => r = .bool true ∧ ∃ (s0' s1' : Int) (t0' t1' k' : Nat), 0 ≤ s0' ∧ (0 ≤ s1' ∧ s1' < 2147483647) ∧ n' = (S, srcO s0' s1' t0' t1' k') :: news) := by
  refine CbM_mk ?_; intro dpY unY gdY cnY csY acY ccY clY ouY a0Y baY h0Y LY mY shY sgY sdY skY soY QY EY aB aF aX aN aT akY adY auY hret
  have hf9 : valueAt opsF c = some (.ref 303) := by rcases hcc with rfl | rfl | rfl <;> rfl
  have hc9 : 115 ≤ c ∧ c ≤ 117 := by (first | lia | omega)
  k_dflt (refine' enterM ?k1 ?k2 ?k3 ?k4 ?k5 ?kA ?kF ?kK ?k6 ?k7 ?k8 ?k9 ?kB ?_ ?c2 ?c3 ?c4 ?c5; (case kA => exact rfl); (case kF => exact rfl); (case kK => assumption); (case k1 => k_asm); (case k2 => k_asm); (case k3 => k_asm); (case k4 => k_asm); (case k5 => k_asm); (case k6 => k_is); (case k7 => k_is); (case k8 => first | ktr_room | k_room); (case k9 => first | exact BindsTo.of_eq rfl | exact binds_K (by k_in) rfl (by k_is) rfl rfl rfl); (case c5 => decide); (case kB => exact locs rfl); (case c2 => exact rfl); (case c3 => exact rfl); (case c4 => exact rfl); k_whole; intro mq g' L' hq tq FGq Fq Nq Bq Xq Tq qkq ekq)
  k_with_none
  k_with "storeName" => ((k_dflt (refine' storeL ?F ?N ?a ?b ?_; (case F => k_asm); (case N => k_asm); (case a => rfl); (case b => rfl); k_whole; intro mszz hszz tszz Fszz Nszz; (try k_sweep))))
  k_with "leaveF" => ((k_dflt (first | (refine' leaveF_ret ?k1 ?k2 ?_; (case k1 => k_asm); (case k2 => k_asm); k_whole) | (refine' leaveF_next ?k1 ?k2 ?_; (case k1 => k_asm); (case k2 => k_asm); k_whole)); intro kFlzz kNlzz; ground_anew kFlzz))
  k_with "ktr_room" => (((try dsimp only [depth_under_make, depth_under_kw, depth_in1, depth_deeper]); first | exact room1 (by assumption) (by decide) | exact room2 (by assumption) (by decide) | exact room0 (by assumption) | exact room3 (by assumption) (by decide) | exact room4 (by assumption) (by decide)))
  k_with "ktr_units" => (((try dsimp only [units_under_make, units_in1, units_deeper, Around.mark_units]); first | exact room1 (by assumption) (by decide) | exact room2 (by assumption) (by decide) | exact room0 (by assumption) | exact room3 (by assumption) (by decide) | exact room4 (by assumption) (by decide)))
  k_with "k_ne" => ((refine neN ?_; (try dsimp only); first | assumption | exact Ne.symm (by assumption) | exact Nat.ne_of_gt (by assumption) | exact Nat.ne_of_lt (by assumption) | exact neP1 (by assumption) | exact neP2 (by assumption) | exact neP3 (by assumption) | exact neP4 (by assumption) | exact neP5 (by assumption)))
  k_with "k_mem" => (first | assumption | exact List.Mem.head _ | (refine' List.Mem.tail _ ?_; k_mem))
  k_with "k_all" => (first | assumption | (refine all1 ?_ (by assumption); k_ne) | (refine all2 ?_ ?_ (by assumption) <;> k_ne) | (refine all3 ?_ ?_ ?_ (by assumption) <;> k_ne))
  k_with "execs cons" => (((with_reducible show wpAny _ _ _ _ _ (PySem.Shared.mk _ _ _ (_ + 1) _)); refine genToks ?_; intro tk9zz))
  k_with "eval Constant int" => ((refine constG ?_; intro t9zz tk9zz))
  k_with "ke_room" => (ktr_units)
  k_with "k_room" => (((try simp only [depth_under_make, depth_under_kw, depth_in1]); ktr_room))
  k_with "execs cons" => first | ((with_reducible show wpAny _ _ _ _ _ (PySem.Shared.mk _ _ _ (_ + 1) _)); refine genToks ?_; intro tk9) | (refine consQ ?_; intro q9)
  k_with "flowQ" => first | (refine flow_next ?_) | (refine flow_ret ?_)
  k_with "call ref" => first
    | ((with_reducible show wpAny _ _ (call (Value.ref 476) _) _ _ _); (k_dflt (refine' useHw4 ?uB ?uF ?uX ?uN ?uT ?uk ?ud ?uu ?_; (case uB => k_asm); (case uF => k_asm); (case uX => k_asm); (case uN => k_asm); (case uT => k_asm); (case uk => exact rfl); (case ud => ktr_room); (case uu => ktr_units); k_whole; intro a6 NN k6 STO GS GSD oS6 gO6 h6 tk6 hW6 w1 w2 w3 w4 w5 w6 w7 hd6 hg6 hgs hsto6 hcv6 hpp6 F6 N6; refine five hW6 fun qW1 qW2 qW3 qW4 qS qn4 => ?_; clear hW6 hd6 hsto6; dsimp only [led] at N6)))
    | ((with_reducible show wpAny _ _ (call (Value.ref 494) [_, Value.int 2 _]) _ _ _); (try dsimp only [List.nil_append, List.cons_append]); rename News _ _ _ _ => kN; (k_dflt (refine hide_v kN w1 w2 w3 w4 w5 w6 w7 qW1 qW4 qS qn4 hS (by assumption) (by assumption) (by assumption) fun cvs vvs rest icv ivv vf mW mWD mST mSD oS9 oR9 oN9 oV9 p1 p2 p3 p4 p5 p6 kN2 => ?_; clear kN w1 w2 w3 w4 w5 w6 w7 qS qW1 qW2 qW3 qW4 qn4; refine' useTake ?z0 ?z1 ⟨by decide, by decide⟩ ?U ?uB ?uF ?uX ?uN ?uT ?uk ?ud ?uu ?_; (case uN => k_asm); (case U => k_updF); (case z0 => assumption); (case z1 => assumption); (case uB => k_asm); (case uF => k_asm); (case uX => k_asm); (case uT => k_asm); (case uk => exact rfl); (case ud => ktr_room); (case uu => ktr_units); k_whole; intro f6 tf6 s06 s16 t06 t16 k6 h6 tk6 f0 f1 z0 z1 F6 N6; (try dsimp only at N6); obtain rfl | rfl : f6 = 0 ∨ f6 = 1 := by (first | lia | omega))))
    | ((with_reducible show wpAny _ _ (call (Value.ref 494) [_, _]) _ _ _); (try dsimp only [List.nil_append, List.cons_append]); (k_dflt (refine' useTake ?z0 ?z1 ⟨by decide, by decide⟩ ?U ?uB ?uF ?uX ?uN ?uT ?uk ?ud ?uu ?_; (case uN => k_asm); (case U => k_updF); (case z0 => assumption); (case z1 => assumption); (case uB => k_asm); (case uF => k_asm); (case uX => k_asm); (case uT => k_asm); (case uk => exact rfl); (case ud => ktr_room); (case uu => ktr_units); k_whole; intro f3 tf3 s03 s13 t03 t13 k3 h6 tk6 f30 f31 z30 z31 F6 N6; (try dsimp only at N6))))
    | ((with_reducible show wpAny _ _ (call (Value.ref 501) [_, _]) _ _ _); (try dsimp only [List.nil_append, List.cons_append]); (k_dflt (refine' useOne (tv := [Value.int _ _, Value.int _ _, Value.int _ _]) (ts := [_, _, _]) ?z0 ?z1 (.cons _ _ (.cons _ _ (.cons _ _ .nil))) ?hl3 ?U ?hm ?hT ?uB ?uF ?uX ?uN ?uT ?uk ?ud ?uu ?_; (case uN => k_asm); (case hm => k_mem); (case U => k_updF); (case hT => k_ne); (case hl3 => constructor <;> simp only [List.length_cons, List.length_nil] <;> decide); (case z0 => assumption); (case z1 => assumption); (case uB => k_asm); (case uF => k_asm); (case uX => k_asm); (case uT => k_asm); (case uk => exact rfl); (case ud => ktr_room); (case uu => ktr_units); k_whole; intro f4 tf4 s04 s14 t04 t14 k4 h6 tk6 f40 f41 z40 z41 F6 N6; (have hq4 := getD3 f40 f41 (by constructor <;> assumption) (by constructor <;> assumption)); (generalize List.getD _ f4.toNat 0 = q4 at hq4 ⊢); (try dsimp only at N6))))
    | ((with_reducible show wpAny _ _ (call (Value.ref 394) [_, Value.int _ _]) _ _ _); (try dsimp only [List.nil_append, List.cons_append]); (k_dflt (refine' useN (push_ok ?m1 ?m2 ?U ?hv ?hm ?hs) ?B ?F ?X ?N ?T ?hk ?hd ?hu ?_; (case B => k_asm); (case F => k_asm); (case X => k_asm); (case N => k_asm); (case T => k_asm); (case m1 => k_mem); (case m2 => k_mem); (case hk => exact rfl); (case hd => ktr_room); (case hu => ktr_units); (case U => k_upd); (case hv => (repeat' (first | exact IntsAre.nil | apply IntsAre.cons))); (case hm => decide); (case hs => simp only [List.length_append, List.length_cons, List.length_nil]; (first | lia | omega)); k_whole; intro h' tk' F' N'; (try k_sweep))))
    | ((with_reducible show wpAny _ _ (call (Value.ref 548) [_, Value.int _ _]) _ _ _); (try dsimp only [List.nil_append, List.cons_append]); rename News _ _ _ _ => kN; (k_dflt (refine' useHeard (heard_ok (c := c) (ys := []) hf9 ?dk ?dl (deltac1 [] ?d0 c hc9 _ a6 NN _ _ STO GS GSD _ 0 oS6 gO6 cvs [100, 200, 300] _ _ rfl ?dp icv _ _ _ ?dp0 ?da0 (.cons _ _ (.cons _ _ (.cons _ _ .nil))) (chain_vf vf) hgs hcv6 hpp6 hg6 vf.q1 vf.w1 vf.w2 vf.w3 vf.w4 vf.w7 (vf.nc _ _))) ?vB ?vF ?vX (show_v2 vf kN) ?vT ?vk ?vd ?vu ?_; (case dk => k_is); (case dl => decide); (case d0 => decide); (case dp => (first | lia | omega)); (case dp0 => simp only [List.length_cons, List.length_nil]; (first | lia | omega)); (case da0 => (first | lia | omega)); (case vB => k_asm); (case vF => k_asm); (case vX => k_asm); (case vT => k_asm); (case vk => exact rfl); (case vd => ktr_room); (case vu => ktr_units); k_whole; intro D5 N7 vs7 k7 rest7 k27 h5 tk5 i7 c7 p7 qd7 F5 N5; refine exK p7 fun cvs7 e7 icv7 => ?_; subst e7; rw [val_delta (by (first | lia | omega)) (by (first | lia | omega))] at icv7; dsimp only [led, wdObj] at N5; rw [hcv6] at N5)))
    | ((with_reducible show wpAny _ _ (call (Value.ref 548) [_, Value.int _ _]) _ _ _); (try dsimp only [List.nil_append, List.cons_append]); rename News _ _ _ _ => kN; (k_dflt (refine' useHeard (heard_ok (c := c) (ys := []) hf9 ?dk ?dl (deltac2 [] ?d0 c hc9 _ a6 NN _ _ STO GS GSD _ 0 oS6 gO6 cvs [100, 200, 300] _ _ rfl ?dp icv _ _ _ ?dp0 ?da0 _ _ ?dp1 ?da1 (.cons _ _ (.cons _ _ (.cons _ _ (.cons _ _ (.cons _ _ .nil))))) (chain_vf vf) hgs hcv6 hpp6 hg6 vf.q1 vf.w1 vf.w2 vf.w3 vf.w4 vf.w7 (vf.nc _ _))) ?vB ?vF ?vX (show_v3 vf kN) ?vT ?vk ?vd ?vu ?_; (case dk => k_is); (case dl => decide); (case d0 => decide); (case dp => (first | lia | omega)); (case dp0 => simp only [List.length_cons, List.length_nil]; (first | lia | omega)); (case da0 => (first | lia | omega)); (case dp1 => simp only [List.length_cons, List.length_nil]; (first | lia | omega)); (case da1 => (first | lia | omega)); (case vB => k_asm); (case vF => k_asm); (case vX => k_asm); (case vT => k_asm); (case vk => exact rfl); (case vd => ktr_room); (case vu => ktr_units); k_whole; intro D5 N7 vs7 k7 rest7 k27 h5 tk5 i7 c7 p7 qd7 F5 N5; refine exK p7 fun cvs7 e7 icv7 => ?_; subst e7; rw [val_delta (by (first | lia | omega)) (by (first | lia | omega)), val_delta (by (first | lia | omega)) (by (first | lia | omega))] at icv7; dsimp only [led, wdObj] at N5; rw [hcv6] at N5)))
  k_with "binaryOp Add int int" => first
    | ((with_reducible show wpAny _ _ (binaryOp _ (Value.int 1 _) (Value.int 0 _)) _ _ _); k_dflt (refine add_int (a := 1) (b := 0) ?_; rw [show (1 : Int) + 0 = 1 from rfl]))
    | ((with_reducible show wpAny _ _ (binaryOp _ (Value.int 1 _) (Value.int 1 _)) _ _ _); k_dflt (refine add_int (a := 1) (b := 1) ?_; rw [show (1 : Int) + 1 = 2 from rfl]))
  k_with "pyIter ref" => first
    | ((with_reducible show wpAny _ _ (pyIter (Value.ref _)) (fun it s₂ => LoopAtV _ _ _ _ _ _ _ _ _ it s₂) _ _); (rename Fr _ _ _ _ => lF'); (rename News _ _ _ _ => kN); (rename IsRange _ _ _ _ _ _ _ _ => rgX); first
        | ((k_dflt (refine' iter_rangeUnr (n := 1) ?rh rgX ?rs ?rn lF' kN ?_; (case rh => rfl); (case rs => decide); (case rn => decide); k_whole)); clear lF'; intro I9 l1; have qR := l1; (try k_lt l1))
        | ((k_dflt (refine' iter_rangeUnr (n := 2) ?rh rgX ?rs ?rn lF' kN ?_; (case rh => rfl); (case rs => decide); (case rn => decide); k_whole)); clear lF'; intro I9 l1; have qR := l1; (try k_lt l1)))
    | ((rename Fr _ _ _ _ => lF'); (rename News _ _ _ _ => kN); first
        | ((with_unfolding_all refine iter_listTurns (vs := [_]) (by rfl) lF' kN (by k_mem) (by rfl) (by rfl) ?_); clear lF'; intro I9 l1; have qR := l1; (try k_lt l1))
        | ((with_unfolding_all refine iter_listTurns (vs := [_, _]) (by rfl) lF' kN (by k_mem) (by rfl) (by rfl) ?_); clear lF'; intro I9 l1; have qR := l1; (try k_lt l1))
)
  k_with "exec If" => ((fail_if_success (with_reducible show wpAny _ _ _ (JoinR _ _ _ _ _ _ _) _ _)); (rename Fr _ _ _ _ => lF'); (rename News _ _ _ _ => kN); (k_dflt (refine' join_if lF' rfl rfl (by first | exact rfl | exact hmea7) (by first | exact rfl | exact hval7) kN ?jU ?ji ?jl ?_ ?_; (case jU => k_dflt k_updF); (case ji => assumption); (case jl => first | rfl | assumption); k_whole)); rotate_left; (k_dflt (intro vv9 h9 tk9 F9 N9 i9 hz9; (try dsimp only at N9))); rotate_left)
  k_with "JoinR" => ((rename News _ _ _ _ => kN); first
     | (k_dflt (refine' ⟨rfl, _, _, _, rfl, ?jF, kN, ?ji⟩; (case jF => k_asm); (case ji => first | exact js1 (by assumption) (by assumption) (by assumption) | exact js2 (by assumption) (by assumption) (by assumption) | exact js3 (by assumption) (by assumption))))
)
  k_with "UnrEndW" => (rename News _ _ _ _ => kN; first
     | (k_dflt (refine' unrW_end ?eF kN (fun p hp => hp) (off_w (off_raw qR rfl)) ⟨?ek, ?_⟩; (case eF => k_asm); (case ek => k_subL); k_whole))
)
  k_with "exec For" => ((rename Fr _ _ _ _ => lF'); (with_unfolding_all refine' For_turns lF' ?_; k_whole))
  k_with "UnrEnd" => ((rename News _ _ _ _ => kN); (k_dflt (refine' unr_end_c ?eF kN ?ex ?eo ?_; (case eF => k_asm); (case ex => k_ne); (case eo => first | exact off_raw qR rfl | exact off_mid (off_raw qR rfl) (by k_ne)); k_whole)))
  k_with "eval Name" => ((have hS9 := hsrc9); clear hS9; k_dflt (refine' nameX_L ?nF ?nv ?_ rfl rfl (by decide); (case nF => k_asm); (case nv => first | exact hsrc9 | exact hmea9 | exact hrow9)))
  k_with "exec For Name Call cons nil" => ((fail_if_success (have hT9 := hT1)); (with_reducible show wpAny _ _ (exec (Stmt.For _ _ (Stmt.Assign [PySem.Expr.Name (Str.ofString "argument") _] _ _ :: _) _ _) _) _ _ _); (k_dflt (refine cutFor (fun M A env b => ∀ (S1 R1 N1 V1 I1 : Nat) (rest1 : List (Addr × Obj)) (z0 z1 : Int) (y0 y1 y2 yr : Nat) (oI oN oV : Obj) (rows : List Value) (me : Int) (tm : Tok) (mm : Str → Option Value) (hh : Heap) (gn : Array GenState) (dr : Drawn) (kt : Nat) (os : OsState) (Q1 : Flow → Shared → Prop) (E1 : Value → Shared → Prop), 0 ≤ z0 → (0 ≤ z1 ∧ z1 < 2147483647) → (0 ≤ me ∧ me < 16) → rows.length ≤ 5 → (∀ p ∈ rest1, p.1 ≠ S1) → (∀ p ∈ rest1, p.1 ≠ R1) → R1 ≠ S1 → N1 ≠ S1 → V1 ≠ S1 → N1 ≠ R1 → V1 ≠ R1 → I1 ≠ S1 → I1 ≠ R1 → mm (Str.ofString "source") = some (.ref S1) → mm (Str.ofString "meant") = some (.int me tm) → mm (Str.ofString "rows") = some (.ref R1) → Fr g' L' hh mm → News g' L' hh ((I1, oI) :: (S1, srcO z0 z1 y0 y1 y2) :: (R1, listOf rows.toArray yr) :: (N1, oN) :: (V1, oV) :: rest1) → (∀ (pl ar : Int) (tp ta : Tok) (T1 : Nat) (z0' z1' : Int) (y0' y1' y2' : Nat) (h' : Heap) (tk' : Nat), (0 ≤ pl ∧ pl < 3) → (0 ≤ ar ∧ ar < 256) → 0 ≤ z0' → (0 ≤ z1' ∧ z1' < 2147483647) → (I1 < T1 ∧ S1 < T1 ∧ R1 < T1 ∧ N1 < T1 ∧ V1 < T1 ∧ AllLt T1 rest1) → Fr g' L' h' (fun y => if y = Str.ofString "argument" then some (.int ar ta) else mm y) → News g' L' h' ((T1, tupO pl ar tp ta) :: (I1, oI) :: (S1, srcO z0' z1' y0' y1' y2') :: (R1, listOf (rows ++ [Value.ref T1]).toArray (yr + 1)) :: (N1, oN) :: (V1, oV) :: rest1) → Q1 .next ⟨h', gn, dr, tk', os⟩) → wpAny M A (execs b env) Q1 E1 ⟨hh, gn, dr, kt, os⟩) ?cP ?cK)); rotate_left; (k_dflt (intro hT1)); rotate_left; (k_dflt (intro S1 R1 N1 V1 I1 rest1 z0 z1 y0 y1 y2 yr oI oN oV rows me tm mm hh gn dr kt os Q1 E1 hz0 hz1 hme hrl oS1 oR1 p1 p2 p3 p4 p5 p6 p7 hsrc9 hmea9 hrow9 hF9 hN9 retT; obtain ⟨me0, me1⟩ := hme)))
  k_with "execs cons" => ((with_reducible show wpAny _ _ (execs (Stmt.Assign [PySem.Expr.Name (Str.ofString "argument") _] _ _ :: _) _) _ _ _); k_dflt (refine' hT1 _ _ _ _ _ _ _ _ _ _ _ _ _ _ _ _ _ _ _ _ _ _ _ _ _ _ ?b1 ?b2 ?b3 ?b4 ?b5 ?b6 ?q1 ?q2 ?q3 ?q4 ?q5 ?q6 ?q7 ?n1 ?n2 ?n3 ?bF ?bN ?_; (case bF => k_asm); (case bN => k_asm); (case n1 => exact rfl); (case n2 => exact rfl); (case n3 => exact rfl); (case b1 => assumption); (case b2 => assumption); (case b3 => constructor <;> assumption); (case b4 => (simp only [List.length_cons, List.length_nil, List.length_append]; omega)); (case b5 => k_all); (case b6 => k_all); (case q1 => k_ne); (case q2 => k_ne); (case q3 => k_ne); (case q4 => k_ne); (case q5 => k_ne); (case q6 => k_ne); (case q7 => k_ne); k_whole; intro pl9 ar9 tp9 ta9 T9 s03 s13 t03 t13 k3 h9 tk9 hpl9 har9 z30 z31 lT9 F9 N9; (try dsimp only at F9); (try k_sweep)))
  k_with "eval Name" => ((have hS9 := hmea7); clear hS9; k_dflt (refine' nameX_L ?nF ?nv ?_ rfl rfl (by decide); (case nF => k_asm); (case nv => first | exact rfl | exact hcod7 | exact hval7 | exact hwrk7 | exact hrow7 | exact hmea7)))
  k_with "exec For" => ((fail_if_success (have hS9 := hmea7)); (have hS9 := hT1); clear hS9; (rename Fr _ _ _ _ => lF'); (k_dflt (refine' hideF lF' ?f1 ?f2 ?f3 ?f4 ?f5 ?_; (case f1 => exact rfl); (case f2 => exact rfl); (case f3 => exact rfl); (case f4 => exact rfl); (case f5 => exact rfl); k_whole)); clear lF'; (k_dflt (intro mm7 hcod7 hval7 hwrk7 hrow7 hmea7 F7)))
  k_steps
  all_goals (rename News _ _ _ _ => kN)
  all_goals first
    | (simp only [List.push_toArray] at kN; refine' retT f3 _ tf3 _ _ s03 s13 t03 t13 k3 _ _ ?r1 ?r2 ?r3 ?r4 ?r5 ?rF ?rN; (case r5 => exact And.right (by assumption)); (case rF => k_asm); (case rN => exact kst_newsOf kN (fun p hp => by rcases List.mem_cons.mp hp with q | q; exact q ▸ List.Mem.head _; exact List.Mem.tail _ (List.Mem.tail _ q))); (case r1 => (constructor <;> assumption)); (case r2 => (first | lia | omega)); (case r3 => assumption); (case r4 => assumption))
    | exact hret _ ((S, srcO s03 s13 t03 t13 k3) :: news) _ _ (by k_asm) (kst_newsOf kN (by intro p hp; simp only [List.mem_cons] at hp ⊢; rcases hp with hp | hp <;> simp [hp])) ⟨rfl, _, _, _, _, _, z30, z31, rfl⟩
end
end

section
open PySem PySem.W PyProof.Rows PySem.Calls PySem.Spec
theorem kwPool : True := by
  k_with_none
  w_top off
  trivial
theorem kwPool_1 : True := by
  k_with_none
  k_with "cell_enter" => ((refine' enterM ?k1 ?k2 ?k3 ?k4 ?k5 ?kA ?kF ?kK ?k6 ?k7 ?k8 ?k9 ?kB ?_ ?c2 ?c3 ?c4 ?c5; (case kA => exact rfl); (case kF => exact rfl); (case kK => assumption); (case k1 => k_asm); (case k2 => k_asm); (case k3 => k_asm); (case k4 => k_asm); (case k5 => k_asm); (case k6 => k_is); (case k7 => k_is); (case k8 => first | ktr_room | k_room); (case k9 => first | exact BindsTo.of_eq rfl | exact binds_K (by k_in) rfl (by k_is) rfl rfl rfl); (case c5 => decide); (case kB => exact locs rfl); (case c2 => exact rfl); (case c3 => exact rfl); (case c4 => exact rfl); k_whole; intro mqzz gqzz Lqzz hqzz tqzz FGqzz Fqzz Nqzz Bqzz Xqzz Tqzz qkqzz ekqzz; (try k_lift Bqzz)))
  k_with "storeName" => ((k_dflt (refine' storeL ?F ?N ?a ?b ?_; (case F => k_asm); (case N => k_asm); (case a => rfl); (case b => rfl); k_whole; intro mszz hszz tszz Fszz Nszz; (try k_sweep))))
  k_with "leaveF" => ((k_dflt (first | (refine' leaveF_ret ?k1 ?k2 ?_; (case k1 => k_asm); (case k2 => k_asm); k_whole) | (refine' leaveF_next ?k1 ?k2 ?_; (case k1 => k_asm); (case k2 => k_asm); k_whole)); intro kFlzz kNlzz; ground_anew kFlzz))
  k_with "ktr_room" => (((try dsimp only [depth_under_make, depth_under_kw, depth_in1, depth_deeper]); first | exact room1 (by assumption) (by decide) | exact room2 (by assumption) (by decide) | exact room0 (by assumption) | exact room3 (by assumption) (by decide) | exact room4 (by assumption) (by decide)))
  k_with "ktr_units" => (((try dsimp only [units_under_make, units_in1, units_deeper, Around.mark_units]); first | exact room1 (by assumption) (by decide) | exact room2 (by assumption) (by decide) | exact room0 (by assumption) | exact room3 (by assumption) (by decide) | exact room4 (by assumption) (by decide)))
  k_with "k_ne" => ((refine neN ?_; (try dsimp only); first | assumption | exact Ne.symm (by assumption) | exact Nat.ne_of_gt (by assumption) | exact Nat.ne_of_lt (by assumption) | exact neP1 (by assumption) | exact neP2 (by assumption) | exact neP3 (by assumption) | exact neP4 (by assumption) | exact neP5 (by assumption)))
  trivial
theorem pool_s0 (c : Int) (b : Bool) : 0 ≤ (if -1 - c > c then -1 - c else c) * (if b = true then 1 else 0) := by
  refine Int.mul_nonneg ?_ ?_ <;> split <;> omega
theorem pool_s1 (x : Int) : 0 ≤ x.fmod 2147483647 ∧ x.fmod 2147483647 < 2147483647 := by
  rw [Int.fmod_eq_emod_of_nonneg _ (by decide)]
  exact ⟨Int.emod_nonneg _ (by decide), Int.emod_lt_of_pos _ (by decide)⟩
section
variable {w : World} {mean : ExcName → Option Value} {mg mb : Str → Option Value}
theorem kwPool_2 : True := by
  k_with_none
  k_with "cell_enter" => ((refine' enterM ?k1 ?k2 ?k3 ?k4 ?k5 ?kA ?kF ?kK ?k6 ?k7 ?k8 ?k9 ?kB ?_ ?c2 ?c3 ?c4 ?c5; (case kA => exact rfl); (case kF => exact rfl); (case kK => assumption); (case k1 => k_asm); (case k2 => k_asm); (case k3 => k_asm); (case k4 => k_asm); (case k5 => k_asm); (case k6 => k_is); (case k7 => k_is); (case k8 => first | ktr_room | k_room); (case k9 => first | exact BindsTo.of_eq rfl | exact binds_K (by k_in) rfl (by k_is) rfl rfl rfl); (case c5 => decide); (case kB => exact locs rfl); (case c2 => exact rfl); (case c3 => exact rfl); (case c4 => exact rfl); k_whole; intro mqzz gqzz Lqzz hqzz tqzz FGqzz Fqzz Nqzz Bqzz Xqzz Tqzz qkqzz ekqzz; (try k_lift Bqzz)))
  k_with "storeName" => ((k_dflt (refine' storeL ?F ?N ?a ?b ?_; (case F => k_asm); (case N => k_asm); (case a => rfl); (case b => rfl); k_whole; intro mszz hszz tszz Fszz Nszz; (try k_sweep))))
  k_with "leaveF" => ((k_dflt (first | (refine' leaveF_ret ?k1 ?k2 ?_; (case k1 => k_asm); (case k2 => k_asm); k_whole) | (refine' leaveF_next ?k1 ?k2 ?_; (case k1 => k_asm); (case k2 => k_asm); k_whole)); intro kFlzz kNlzz; ground_anew kFlzz))
  k_with "ktr_room" => (((try dsimp only [depth_under_make, depth_under_kw, depth_in1, depth_deeper]); first | exact room1 (by assumption) (by decide) | exact room2 (by assumption) (by decide) | exact room0 (by assumption) | exact room3 (by assumption) (by decide) | exact room4 (by assumption) (by decide)))
  k_with "ktr_units" => (((try dsimp only [units_under_make, units_in1, units_deeper, Around.mark_units]); first | exact room1 (by assumption) (by decide) | exact room2 (by assumption) (by decide) | exact room0 (by assumption) | exact room3 (by assumption) (by decide) | exact room4 (by assumption) (by decide)))
  k_with "k_ne" => ((refine neN ?_; (try dsimp only); first | assumption | exact Ne.symm (by assumption) | exact Nat.ne_of_gt (by assumption) | exact Nat.ne_of_lt (by assumption) | exact neP1 (by assumption) | exact neP2 (by assumption) | exact neP3 (by assumption) | exact neP4 (by assumption) | exact neP5 (by assumption)))
  k_with "k_all" => (assumption)
  k_with "execs cons" => (((with_reducible show wpAny _ _ _ _ _ (PySem.Shared.mk _ _ _ (_ + 1) _)); refine genToks ?_; intro tk9zz))
  k_with "eval Constant int" => ((refine constG ?_; intro t9zz tk9zz))
  k_with "ke_room" => (ktr_units)
  trivial
theorem pool_c (S : Nat) (vs : List Value) (ns : List Int) (hI : IntsAre vs ns) (hL : (PyData.list (ns.map PyData.int)).layable0 = true) (hn : ns.length ≤ 63) (tz : Tok)
  (dp un : Nat) (gd : Option (List Code)) (cn : Str) (cs : Scope) (a : Addr) (ccd : Value) (cl : List (Str × Addr)) (outer : List Env) (A₀ : Around) (base h₀ : Heap) (L : Addr) (m : Str → Option Value) (s : Shared) (Q E : Value → Shared → Prop) (news : List (Addr × Obj))
  (aB : Below A₀ base outer h₀) (aF : Fr h₀ L s.heap m) (aX : InK w h₀) (aN : News h₀ L s.heap news) (aT : TopK mean mg mb h₀) (aS : base.IsList S vs.toArray) (hk : cs.kind = .function) (hd' : dp + 30 < recursionLimit) (hu : un + 1000 < cLine)
  (ret : ∀ (D : Addr) (s0 s1 : Int) (t0 t1 k : Nat) (h' : Heap) (tk' : Nat), 0 ≤ s0 → (0 ≤ s1 ∧ s1 < 2147483647) → Fr h₀ L h' m → News h₀ L h' ((D, srcO s0 s1 t0 t1 k) :: news) → (∀ p ∈ news, p.1 < D) → Q (.ref D) { s with heap := h', toks := tk' }) :
    wpAny (model PySem.Challenge.rw_pf0201_01.row.prog w) (ktrTop dp un gd cn cs L a ccd cl outer) (call (.ref 487) [.ref S, .int 0 tz]) Q E s := by
  k_dflt cell_enter
  k_with_none
  k_with "cell_enter" => ((refine' enterM ?k1 ?k2 ?k3 ?k4 ?k5 ?kA ?kF ?kK ?k6 ?k7 ?k8 ?k9 ?kB ?_ ?c2 ?c3 ?c4 ?c5; (case kA => exact rfl); (case kF => exact rfl); (case kK => assumption); (case k1 => k_asm); (case k2 => k_asm); (case k3 => k_asm); (case k4 => k_asm); (case k5 => k_asm); (case k6 => k_is); (case k7 => k_is); (case k8 => first | ktr_room | k_room); (case k9 => first | exact BindsTo.of_eq rfl | exact binds_K (by k_in) rfl (by k_is) rfl rfl rfl); (case c5 => decide); (case kB => exact locs rfl); (case c2 => exact rfl); (case c3 => exact rfl); (case c4 => exact rfl); k_whole; intro mqzz gqzz Lqzz hqzz tqzz FGqzz Fqzz Nqzz Bqzz Xqzz Tqzz qkqzz ekqzz; (try k_lift Bqzz)))
  k_with "storeName" => ((k_dflt (refine' storeL ?F ?N ?a ?b ?_; (case F => k_asm); (case N => k_asm); (case a => rfl); (case b => rfl); k_whole; intro mszz hszz tszz Fszz Nszz; (try k_sweep))))
  k_with "leaveF" => ((k_dflt (first | (refine' leaveF_ret ?k1 ?k2 ?_; (case k1 => k_asm); (case k2 => k_asm); k_whole) | (refine' leaveF_next ?k1 ?k2 ?_; (case k1 => k_asm); (case k2 => k_asm); k_whole)); intro kFlzz kNlzz; ground_anew kFlzz))
  k_with "ktr_room" => (((try dsimp only [depth_under_make, depth_under_kw, depth_in1, depth_deeper]); first | exact room1 (by assumption) (by decide) | exact room2 (by assumption) (by decide) | exact room0 (by assumption) | exact room3 (by assumption) (by decide) | exact room4 (by assumption) (by decide)))
  k_with "ktr_units" => (((try dsimp only [units_under_make, units_in1, units_deeper, Around.mark_units]); first | exact room1 (by assumption) (by decide) | exact room2 (by assumption) (by decide) | exact room0 (by assumption) | exact room3 (by assumption) (by decide) | exact room4 (by assumption) (by decide)))
  k_with "k_ne" => ((refine neN ?_; (try dsimp only); first | assumption | exact Ne.symm (by assumption) | exact Nat.ne_of_gt (by assumption) | exact Nat.ne_of_lt (by assumption) | exact neP1 (by assumption) | exact neP2 (by assumption) | exact neP3 (by assumption) | exact neP4 (by assumption) | exact neP5 (by assumption)))
  k_with "k_all" => (assumption)
  k_with "execs cons" => (((with_reducible show wpAny _ _ _ _ _ (PySem.Shared.mk _ _ _ (_ + 1) _)); refine genToks ?_; intro tk9zz))
  k_with "eval Constant int" => ((refine constG ?_; intro t9zz tk9zz))
  k_with "ke_room" => (ktr_units)
  k_with "spliced" => first | ((with_reducible show wpAny _ _ (spliced (backTo _ (starEach [PySem.Expr.Name _ _] _))) _ _ _); k_dflt (refine' argsN ?hF ?h0 rfl rfl rfl ?_; (case hF => k_asm); (case h0 => exact rfl); k_whole)) | ((with_reducible show wpAny _ _ (spliced (backTo _ (starEach [PySem.Expr.Constant (Const.int _) _ _] _))) _ _ _); refine argsC ?_; intro t9 tk9) | ((with_reducible show wpAny _ _ (spliced (backTo _ (starEach [PySem.Expr.Name _ _, PySem.Expr.Name _ _] _))) _ _ _); k_dflt (refine' argsNN ?hF ?h0 ?h1 rfl rfl rfl rfl rfl ?_; (case hF => k_asm); (case h0 => exact rfl); (case h1 => exact rfl); k_whole)) | ((with_reducible show wpAny _ _ (spliced (backTo _ (starEach [PySem.Expr.Name _ _, PySem.Expr.Constant (Const.int _) _ _] _))) _ _ _); k_dflt (refine' argsNC ?hF ?h0 rfl rfl rfl ?_; (case hF => k_asm); (case h0 => exact rfl); k_whole); intro t9 tk9) | ((with_reducible show wpAny _ _ (spliced (backTo _ (starEach [PySem.Expr.Name _ _, PySem.Expr.Name _ _, PySem.Expr.Name _ _] _))) _ _ _); k_dflt (refine' argsNNN ?hF ?h0 ?h1 ?h2 rfl rfl rfl rfl rfl rfl rfl ?_; (case hF => k_asm); (case h0 => exact rfl); (case h1 => exact rfl); (case h2 => exact rfl); k_whole))
  k_with "isTrue Compare" => ((with_reducible show wpAny _ _ (isTrue (PySem.Expr.Compare (PySem.Expr.Name _ _) [_] [PySem.Expr.Constant (Const.int _) _ _] _) _ _) _ _ _); k_dflt (refine' tsNC ?hF ?h0 ?hc rfl rfl rfl ?_; (case hF => k_asm); (case h0 => exact rfl); (case hc => exact rfl); k_whole); intro tk9)
  k_with "execs cons" => first | ((with_reducible show wpAny _ _ _ _ _ (PySem.Shared.mk _ _ _ (_ + 1) _)); refine genToks ?_; intro tk9) | (refine consQ ?_; intro q9)
  k_with "flowQ" => first | (refine flow_next ?_) | (refine flow_ret ?_)
  k_steps
  all_goals (
    rename News _ _ _ _ => kN
    refine ret _ _ _ _ _ _ _ _ ?_ ?_ (by k_asm) kN ?_
    · first | exact pool_s0 _ _ | exact pool_s0 0 _
    · exact pool_s1 _
    · assumption)
end
end

section
open PySem PySem.W PyProof.Rows PySem.Calls PySem.Spec
theorem kwLaw : True := by
  k_with_none
  w_top off
  trivial
section
variable {w : World} {mean : ExcName → Option Value} {mg mb : Str → Option Value}
theorem kwLaw_1 : True := by
  k_with_none
  k_with "storeName" => ((k_dflt (refine' storeL ?F ?N ?a ?b ?_; (case F => k_asm); (case N => k_asm); (case a => rfl); (case b => rfl); k_whole; intro mszz hszz tszz Fszz Nszz; (try k_sweep))))
  k_with "leaveF" => ((k_dflt (first | (refine' leaveF_ret ?k1 ?k2 ?_; (case k1 => k_asm); (case k2 => k_asm); k_whole) | (refine' leaveF_next ?k1 ?k2 ?_; (case k1 => k_asm); (case k2 => k_asm); k_whole)); intro kFlzz kNlzz; ground_anew kFlzz))
  trivial
theorem useZ {f : Addr} {dd uu : Nat} {news : List (Addr × Obj)} {vs : List Value}
  {dp un : Nat} {gd : Option (List Code)} {cn : Str} {cs : Scope} {a : Addr} {ccd : Value} {cl : List (Str × Addr)} {A₀ : Around} {base h₀ : Heap} {L : Addr} {m : Str → Option Value} {s : Shared} {Q E : Value → Shared → Prop} {Post : List (Addr × Obj) → Value → Prop} (c : CbZ w mean mg mb f dd uu news vs Post) (B : Below A₀ base [] h₀) (F : Fr h₀ L s.heap m) (X : InK w h₀) (N : News h₀ L s.heap news) (T : TopK mean mg mb h₀) (XB : InK w base) (TB : TopK mean mg mb base)
    (hk : cs.kind = .function) (hd' : dp + dd < recursionLimit) (hu : un + uu < cLine) (ret : ∀ r n' h' tk', Post n' r → Fr h₀ L h' m → News h₀ L h' n' → Q r { s with heap := h', toks := tk' }) :
    wpAny (model PySem.Challenge.rw_pf0201_01.row.prog w) (ktrTop dp un gd cn cs L a ccd cl []) (call (.ref f) vs) Q E s :=
  c _ _ _ _ _ _ _ _ _ _ _ _ _ _ _ _ B F X N T XB TB hk hd' hu fun r n' h' tk' F' N' hp => ret r n' h' tk' hp F' N'
theorem good1 : GoodX [5, 6, 7, 8, 2] := ⟨by decide, by decide⟩
theorem storage_any (zs : List Int) (hl8 : zs.length ≤ 8) (S k : Nat) (vs : List Value) (news : List (Addr × Obj)) (hv : IntsAre vs zs) (hS : ∀ p ∈ news, p.1 ≠ S) :
    CbM w mean mg mb 562 150 8000 ((S, listOf vs.toArray k) :: news) [.ref S] (fun n' r => n' = (S, listOf vs.toArray k) :: news ∧ r = .bool true) := by
  by_cases h : zs.length < 2
  · exact storage_short zs h S k vs news hv
  · exact storage_c zs (by omega) hl8 S k vs news hv hS
theorem values_u {c : Int} {tc : Tok} (hcc : c = 115 ∨ c = 116 ∨ c = 117) {S : Nat} {s0 s1 : Int} {t0 t1 k : Nat} (h0 : 0 ≤ s0) (h1 : 0 ≤ s1 ∧ s1 < 2147483647) {news : List (Addr × Obj)} {g : Obj → List (Addr × Obj)} (U : UpdF S (srcO s0 s1 t0 t1 k) news g) :
    CbM w mean mg mb 569 200 9000 news [.ref S, .int c tc] (fun n' r => r = .bool true ∧ ∃ (s0' s1' : Int) (t0' t1' k' : Nat), 0 ≤ s0' ∧ (0 ≤ s1' ∧ s1' < 2147483647) ∧ n' = g (srcO s0' s1' t0' t1' k')) := by
  obtain ⟨pre, post, rfl, hg, a, b⟩ := U.split
  refine CbM.weak (CbM.pre (values_c c tc hcc S s0 s1 t0 t1 k h0 h1 (pre ++ post) (fun p hp => (List.mem_append.mp hp).elim (a p) (b p))) (fun p hp => ?_)) fun n' r h => ?_
  · exact List.perm_middle.mem_iff.mpr hp
  · obtain ⟨e, s0', s1', t0', t1', k', z0, z1, rfl⟩ := h
    exact ⟨g (srcO s0' s1' t0' t1' k'), by rw [hg]; intro p hp; exact List.perm_middle.mem_iff.mp hp, e, s0', s1', t0', t1', k', z0, z1, rfl⟩
theorem useZT {f : Addr} {dd uu : Nat} {news nx : List (Addr × Obj)} {v : Value} {vs : List Value} {dp un : Nat} {gd : Option (List Code)} {cn : Str} {cs : Scope} {a : Addr} {ccd : Value} {cl : List (Str × Addr)} {A₀ : Around} {base h₀ : Heap} {L : Addr} {m : Str → Option Value} {s : Shared} {Q E : Value → Shared → Prop} (c : CbZ w mean mg mb f dd uu news vs (fun n' r => n' = nx ∧ r = v)) (B : Below A₀ base [] h₀) (F : Fr h₀ L s.heap m) (X : InK w h₀) (N : News h₀ L s.heap news) (T : TopK mean mg mb h₀) (XB : InK w base) (TB : TopK mean mg mb base)
    (hk : cs.kind = .function) (hd' : dp + dd < recursionLimit) (hu : un + uu < cLine) (ret : ∀ h' tk', Fr h₀ L h' m → News h₀ L h' nx → Q v { s with heap := h', toks := tk' }) :
    wpAny (model PySem.Challenge.rw_pf0201_01.row.prog w) (ktrTop dp un gd cn cs L a ccd cl []) (call (.ref f) vs) Q E s :=
  useZ c B F X N T XB TB hk hd' hu fun r n' h' tk' P' F' N' => by obtain ⟨rfl, rfl⟩ := P'; exact ret h' tk' F' N'
theorem useVals {c : Int} {tc : Tok} {S : Nat} {s0 s1 : Int} {t0 t1 k : Nat} {news : List (Addr × Obj)} {g : Obj → List (Addr × Obj)} {outer : List Env} {dp un : Nat} {gd : Option (List Code)} {cn : Str} {cs : Scope} {a : Addr} {ccd : Value} {cl : List (Str × Addr)} {A₀ : Around} {base h₀ : Heap} {L : Addr} {m : Str → Option Value} {s : Shared} {Q E : Value → Shared → Prop} (hcc : c = 115 ∨ c = 116 ∨ c = 117) (h0 : 0 ≤ s0) (h1 : 0 ≤ s1 ∧ s1 < 2147483647) (U : UpdF S (srcO s0 s1 t0 t1 k) news g)
    (B : Below A₀ base outer h₀) (F : Fr h₀ L s.heap m) (X : (hd.heap_1 w.params).In h₀) (N0 : News h₀ L s.heap news) (T : Top hd.view_39 (looseW hd.view_39 [Str.ofString "HintWork"]) mean mg mb h₀) (hk : cs.kind = .function) (hd' : dp + 200 < recursionLimit) (hu : un + 9000 < cLine)
    (ret : ∀ (s0' s1' : Int) (t0' t1' k' : Nat) (h' : Heap) (tk' : Nat), 0 ≤ s0' → (0 ≤ s1' ∧ s1' < 2147483647) → Fr h₀ L h' m → News h₀ L h' (g (srcO s0' s1' t0' t1' k')) → Q (.bool true) { s with heap := h', toks := tk' }) :
    wpAny (model PySem.Challenge.rw_pf0201_01.row.prog w) (ktrTop dp un gd cn cs L a ccd cl outer) (call (.ref 569) [.ref S, .int c tc]) Q E s :=
  useM (values_u hcc h0 h1 U) B F X N0 T hk hd' hu fun r n' h' tk' P' F' N' => by
    obtain ⟨rfl, s0', s1', t0', t1', k', a3, a4, rfl⟩ := P'
    exact ret s0' s1' t0' t1' k' h' tk' a3 a4 F' N'
theorem sel8 (a b c d e f g h : Addr × Obj) : ∀ p ∈ [a, d, e, f, g, h], p ∈ [a, b, c, d, e, f, g, h] := by
  intro p hp
  simp only [List.mem_cons, List.not_mem_nil, or_false] at hp ⊢
  rcases hp with hp | hp | hp | hp | hp | hp <;> simp [hp]
theorem exSrc {P : Int → Int → Nat → Nat → Nat → Prop} {G : Prop} (h : ∃ (s0 s1 : Int) (t0 t1 k : Nat), 0 ≤ s0 ∧ (0 ≤ s1 ∧ s1 < 2147483647) ∧ P s0 s1 t0 t1 k) (K : ∀ (s0 s1 : Int) (t0 t1 k : Nat), 0 ≤ s0 → (0 ≤ s1 ∧ s1 < 2147483647) → P s0 s1 t0 t1 k → G) : G :=
  let ⟨s0, s1, t0, t1, k, a, b, p⟩ := h; K s0 s1 t0 t1 k a b p
theorem exSrcL {P : Int → Int → Nat → Nat → Nat → List Int → Prop} {Q1 Q2 Q3 : List Int → Prop} {G : Prop} (h : ∃ (s0 s1 : Int) (t0 t1 k : Nat) (hs : List Int), 0 ≤ s0 ∧ (0 ≤ s1 ∧ s1 < 2147483647) ∧ Q1 hs ∧ Q2 hs ∧ Q3 hs ∧ P s0 s1 t0 t1 k hs) (K : ∀ (s0 s1 : Int) (t0 t1 k : Nat) (hs : List Int), 0 ≤ s0 → (0 ≤ s1 ∧ s1 < 2147483647) → Q1 hs → Q2 hs → Q3 hs → P s0 s1 t0 t1 k hs → G) : G :=
  let ⟨s0, s1, t0, t1, k, hs, a, b, c, d, e, p⟩ := h; K s0 s1 t0 t1 k hs a b c d e p
theorem and3 {A B C D G : Prop} (h : (A ∧ B ∧ C) ∧ D) (K : A → B → C → G) : G := K h.1.1 h.1.2.1 h.1.2.2
theorem split2K {G : Prop} {h₀ h : Heap} {L : Addr} {a : Addr × Obj} {D T c2 c1 : Nat} {od ot o2 o1 : Obj} (N : News h₀ L h [a, (D, od), (T, ot), (c2, o2), (c1, o1)]) (h1 : T ≠ D) (h2 : ∀ p ∈ [((c2, o2) : Addr × Obj), (c1, o1)], p.1 ≠ D) (K : ∀ R, R = [(T, ot), (c2, o2), (c1, o1)] → (T, ot) ∈ R → (c2, o2) ∈ R → (c1, o1) ∈ R → (∀ p ∈ R, p.1 ≠ D) → News h₀ L h ((D, od) :: R) → G) : G :=
  K _ rfl (.head _) (.tail _ (.head _)) (.tail _ (.tail _ (.head _))) (all1 h1 h2) fun p hp => N p (.tail _ hp)
theorem split3K {G : Prop} {h₀ h : Heap} {L : Addr} {x y D T c2 c1 : Nat} {ox oy od ot o2 o1 : Obj} (N : News h₀ L h [(x, ox), (y, oy), (D, od), (T, ot), (c2, o2), (c1, o1)]) (h1 : x ≠ D) (h2 : y ≠ D) (h3 : ∀ p ∈ [((T, ot) : Addr × Obj), (c2, o2), (c1, o1)], p.1 ≠ D) (K : ∀ R, R = [(T, ot), (c2, o2), (c1, o1)] → (T, ot) ∈ R → (c2, o2) ∈ R → (c1, o1) ∈ R → x ≠ D → y ≠ D → (∀ p ∈ R, p.1 ≠ D) → News h₀ L h ((x, ox) :: (y, oy) :: (D, od) :: R) → G) : G :=
  K _ rfl (.head _) (.tail _ (.head _)) (.tail _ (.tail _ (.head _))) h1 h2 h3 N
theorem split3 {h₀ h : Heap} {L : Addr} {a b c : Addr × Obj} {l : List (Addr × Obj)} (N : News h₀ L h (a :: b :: c :: l)) : ∃ x y R, x = a ∧ y = b ∧ R = l ∧ News h₀ L h (x :: y :: c :: R) := ⟨a, b, l, rfl, rfl, rfl, N⟩
theorem code3 {a b c : Tok} {i : Nat} {v : Value} (h : (#[Value.int 115 a, Value.int 116 b, Value.int 117 c] : Array Value)[i]? = some v) : ∃ (q : Int) (t : Tok), v = .int q t ∧ (q = 115 ∨ q = 116 ∨ q = 117) := by
  rcases i with _ | _ | _ | i
  · exact ⟨115, a, (Option.some.inj h).symm, .inl rfl⟩
  · exact ⟨116, b, (Option.some.inj h).symm, .inr (.inl rfl)⟩
  · exact ⟨117, c, (Option.some.inj h).symm, .inr (.inr rfl)⟩
  · simp at h
section
variable {prog : Program} {w : World} {A : Around} {s : Shared} {h₀ : Heap} {L : Addr} {m : Str → Option Value} {env : Env}
/-- a comprehension with a test, turn by turn, by a relation over what is left -/
theorem compT_ind {ct elt : PySem.Expr} {x : Str} {scope : Scope} {cl : List (Str × Addr)} {S : List (Addr × Obj) → Prop} {P : Nat → Value → Prop} {Fin : List Value → List (Addr × Obj) → Prop} (J : Nat → List Value → List (Addr × Obj) → Prop)
    (fin : ∀ ys news, J 0 ys news → Fin ys news)
    (step : ∀ k i ys news v I oI C oC D m₂ h tk (E' : Value → Shared → Prop), J (k + 1) ys news → P i v → LCg.NsObj oC m₂ → m₂ x = some v → Fr h₀ L h m → News h₀ L h ((I, oI) :: (C, oC) :: (D, LCg.lst ys) :: news) → LCg.Off3 I C D news → ((@Ne Nat I C) ∧ (@Ne Nat I D) ∧ (@Ne Nat C D)) →
      wpAny (model prog w) A (isTrue ct (compEnvC scope cl C env) (eval ct (compEnvC scope cl C env))) (fun ok s' => if ok = true then
        wpAny (model prog w) A (eval elt (compEnvC scope cl C env)) (LCg.CompEnd h₀ L m { s with heap := h, toks := tk } I oI C oC D (LCg.lst ys) S (fun y news' => J k (ys ++ [y]) news')) E' s'
        else LCg.CompEnd h₀ L m { s with heap := h, toks := tk } I oI C oC D (LCg.lst ys) S (fun _ news' => J k ys news') Value.none s') E' { s with heap := h, toks := tk }) :
    ∀ k i ys news, J k ys news → LCt.CompRestT prog w A h₀ L m env ct elt x scope cl s S P Fin k i ys news
  | 0, _, ys, news, h => LCt.CompRestT.zero (fin ys news h)
  | k + 1, i, ys, news, h => LCt.CompRestT.succ fun v I oI C oC D m₂ hp tk E' hv hC hx F N off ne =>
      wpAny_mono (step k i ys news v I oI C oC D m₂ hp tk E' h hv hC hx F N off ne)
        (fun ok s' hq => by
          cases ok with
          | true =>
            simp only [if_true] at hq ⊢
            refine wpAny_mono hq (fun _ _ p => ?_) fun _ _ e => e
            obtain ⟨h', tk', news', e, F', N', off', hS, hr⟩ := p
            exact ⟨h', tk', news', e, F', N', off', hS, compT_ind J fin step k (i + 1) _ _ hr⟩
          | false =>
            simp only [Bool.false_eq_true, if_false] at hq ⊢
            obtain ⟨h', tk', news', e, F', N', off', hS, hr⟩ := hq
            exact ⟨h', tk', news', e, F', N', off', hS, compT_ind J fin step k (i + 1) _ _ hr⟩) fun _ _ e => e
end
noncomputable def someL : List Int := [0, 1, 2, 3, 4, 64, -1, -64, 100, -33, 2 ^ Int.toNat 31 - 1, -2 ^ Int.toNat 31, 65536]
theorem law_gen {h₀ h : Heap} {L T : Addr} {p5 p1 x2 x1 : Addr × Obj} {a0 a1 a2 a3 a4 a5 a6 a7 a8 a9 b0 b1 b2 : Nat}
    (N : News h₀ L h ([(T, listOf #[Value.int 0 a0, Value.int 1 a1, Value.int 2 a2, Value.int 3 a3, Value.int 4 a4, Value.int 64 a5, Value.int (-1) a6, Value.int (-64) a7, Value.int 100 a8, Value.int (-33) a9, Value.int (2 ^ Int.toNat 31 - 1) b0, Value.int (-2 ^ Int.toNat 31) b1, Value.int 65536 b2] 0), p5, p1] ++ [x2, x1])) :
    ∃ tv : List Value, IntsAre tv someL ∧ News h₀ L h [p5, (T, listOf tv.toArray 0), x2, x1] :=
  ⟨[Value.int 0 a0, Value.int 1 a1, Value.int 2 a2, Value.int 3 a3, Value.int 4 a4, Value.int 64 a5, Value.int (-1) a6, Value.int (-64) a7, Value.int 100 a8, Value.int (-33) a9, Value.int (2 ^ Int.toNat 31 - 1) b0, Value.int (-2 ^ Int.toNat 31) b1, Value.int 65536 b2],
    .cons _ _ (.cons _ _ (.cons _ _ (.cons _ _ (.cons _ _ (.cons _ _ (.cons _ _ (.cons _ _ (.cons _ _ (.cons _ _ (.cons _ _ (.cons _ _ (.cons _ _ .nil)))))))))))), fun p hp => N p (by
      simp only [List.mem_cons, List.cons_append, List.nil_append, List.not_mem_nil, or_false] at hp ⊢
      rcases hp with hp | hp | hp | hp <;> simp [hp])⟩
theorem split2 {h₀ h : Heap} {L : Addr} {a b : Addr × Obj} {l : List (Addr × Obj)} (N : News h₀ L h (a :: b :: l)) : ∃ R, R = l ∧ News h₀ L h (b :: R) := ⟨l, rfl, fun p hp => N p (List.Mem.tail _ hp)⟩
theorem getD_all {l : List Int} {P : Int → Prop} (h : ∀ x ∈ l, P x) {f : Int} (f0 : 0 ≤ f) (f1 : f < (l.length : Int)) : P (l.getD f.toNat 0) := by
  have hlt : f.toNat < l.length := by omega
  rw [List.getD_eq_getElem?_getD, List.getElem?_eq_getElem hlt]
  exact h _ (List.getElem_mem hlt)
theorem getD10 {f : Int} (f0 : 0 ≤ f) (f1 : f < (([0, 1, 2, 3, 4, 5, 6, 7, 8, 4] : List Int).length : Int)) : 0 ≤ ([0, 1, 2, 3, 4, 5, 6, 7, 8, 4] : List Int).getD f.toNat 0 ∧ ([0, 1, 2, 3, 4, 5, 6, 7, 8, 4] : List Int).getD f.toNat 0 ≤ 8 :=
  getD_all (P := fun x => 0 ≤ x ∧ x ≤ 8) (by decide) f0 f1
theorem some_bd {f : Int} (f0 : 0 ≤ f) (f1 : f < (someL.length : Int)) : -(2^31) ≤ someL.getD f.toNat 0 ∧ someL.getD f.toNat 0 ≤ 2^31 :=
  getD_all (P := fun x => -(2^31) ≤ x ∧ x ≤ 2^31) (by decide) f0 f1
theorem small8 {x : Int} (h : 0 ≤ x ∧ x ≤ 8) : Builtin.Range.small 0 x 1 = true := small_one (by omega) (by omega) (by omega) (by omega)
theorem size8 {x : Int} (h : 0 ≤ x ∧ x ≤ 8) : (x - 0).toNat ≤ sizeLine := by rw [PySem.sizeLine_eq]; omega
theorem len0 {x : Int} (h : 0 ≤ x ∧ x ≤ 8) : (([] : List Int).length : Int) + (((x - 0).toNat : Nat) : Int) = x := by simp only [List.length_nil]; omega
theorem len8 {x : Int} {n : Nat} (e : (n : Int) + ((0 : Nat) : Int) = x) (h : 0 ≤ x ∧ x ≤ 8) : n ≤ 8 := by omega
theorem lenS {x v : Int} {k : Nat} {hs : List Int} (e : (hs.length : Int) + ((k + 1 : Nat) : Int) = x) : ((hs ++ [v]).length : Int) + (k : Int) = x := by simp only [List.length_append, List.length_cons, List.length_nil]; omega
end
theorem some_snoc {hs : List Int} {f : Int} (b : ∀ x ∈ hs, -(2^31) ≤ x ∧ x ≤ 2^31) (f0 : 0 ≤ f) (f1 : f < (someL.length : Int)) : ∀ x ∈ hs ++ [someL.getD f.toNat 0], -(2^31) ≤ x ∧ x ≤ 2^31 := by
  intro x hx
  rcases List.mem_append.mp hx with q | q
  · exact b x q
  · rw [List.mem_singleton.mp q]; exact some_bd f0 f1
local macro_rules | `(tactic| k_qdec) => `(tactic| decide +kernel)
theorem kwLaw_2 : True := by
  k_with_none
  k_with "storeName" => ((k_dflt (refine' storeL ?F ?N ?a ?b ?_; (case F => k_asm); (case N => k_asm); (case a => rfl); (case b => rfl); k_whole; intro mszz hszz tszz Fszz Nszz; (try k_sweep))))
  k_with "leaveF" => ((k_dflt (first | (refine' leaveF_ret ?k1 ?k2 ?_; (case k1 => k_asm); (case k2 => k_asm); k_whole) | (refine' leaveF_next ?k1 ?k2 ?_; (case k1 => k_asm); (case k2 => k_asm); k_whole)); intro kFlzz kNlzz; ground_anew kFlzz))
  k_with "ktr_room" => (((try dsimp only [depth_under_make, depth_under_kw, depth_in1, depth_deeper]); first | exact room1 (by assumption) (by decide) | exact room2 (by assumption) (by decide) | exact room0 (by assumption) | exact room3 (by assumption) (by decide) | exact room4 (by assumption) (by decide)))
  k_with "ktr_units" => (((try dsimp only [units_under_make, units_in1, units_deeper, Around.mark_units]); first | exact room1 (by assumption) (by decide) | exact room2 (by assumption) (by decide) | exact room0 (by assumption) | exact room3 (by assumption) (by decide) | exact room4 (by assumption) (by decide)))
  k_with "k_ne" => ((refine neN ?_; (try dsimp only); first | assumption | exact Ne.symm (by assumption) | exact Nat.ne_of_gt (by assumption) | exact Nat.ne_of_lt (by assumption) | exact neP1 (by assumption) | exact neP2 (by assumption) | exact neP3 (by assumption) | exact neP4 (by assumption) | exact neP5 (by assumption)))
  k_with "k_mem" => (first | assumption | exact List.Mem.head _ | (refine' List.Mem.tail _ ?_; k_mem))
  k_with "k_all" => (first | assumption | (refine all1 ?_ (by assumption); k_ne) | (refine all2 ?_ ?_ (by assumption) <;> k_ne) | (refine all3 ?_ ?_ ?_ (by assumption) <;> k_ne))
  k_with "ke_room" => (ktr_units)
  trivial
theorem law_all : PySem.Challenge.rw_pf0201_01.Holds := by
  refine hd ?_
  w_strict (
   k_go0
   (all_goals try k_fold)
   k_with_none
   k_with "storeName" => ((k_dflt (refine' storeL ?F ?N ?a ?b ?_; (case F => k_asm); (case N => k_asm); (case a => rfl); (case b => rfl); k_whole; intro mszz hszz tszz Fszz Nszz; (try k_sweep))))
   k_with "leaveF" => ((k_dflt (first | (refine' leaveF_ret ?k1 ?k2 ?_; (case k1 => k_asm); (case k2 => k_asm); k_whole) | (refine' leaveF_next ?k1 ?k2 ?_; (case k1 => k_asm); (case k2 => k_asm); k_whole)); intro kFlzz kNlzz; ground_anew kFlzz))
   k_with "ktr_room" => (((try dsimp only [depth_under_make, depth_under_kw, depth_in1, depth_deeper]); first | exact room1 (by assumption) (by decide) | exact room2 (by assumption) (by decide) | exact room0 (by assumption) | exact room3 (by assumption) (by decide) | exact room4 (by assumption) (by decide)))
   k_with "ktr_units" => (((try dsimp only [units_under_make, units_in1, units_deeper, Around.mark_units]); first | exact room1 (by assumption) (by decide) | exact room2 (by assumption) (by decide) | exact room0 (by assumption) | exact room3 (by assumption) (by decide) | exact room4 (by assumption) (by decide)))
   k_with "k_ne" => ((refine neN ?_; (try dsimp only); first | assumption | exact Ne.symm (by assumption) | exact Nat.ne_of_gt (by assumption) | exact Nat.ne_of_lt (by assumption) | exact neP1 (by assumption) | exact neP2 (by assumption) | exact neP3 (by assumption) | exact neP4 (by assumption) | exact neP5 (by assumption)))
   k_with "k_mem" => (first | assumption | exact List.Mem.head _ | (refine' List.Mem.tail _ ?_; k_mem))
   k_with "k_all" => (first | assumption | (refine all1 ?_ (by assumption); k_ne) | (refine all2 ?_ ?_ (by assumption) <;> k_ne) | (refine all3 ?_ ?_ ?_ (by assumption) <;> k_ne))
   k_with "ke_room" => (ktr_units)
   k_with "execs cons" => (refine consQ ?_; intro q9)
   k_with "flowQ" => first | (refine flow_next ?_) | (refine flow_ret ?_)
   k_with "call ref" => first
    | ((with_reducible show wpAny _ _ (call (Value.ref 555) [_, _]) _ _ _); (try dsimp only [List.nil_append, List.cons_append]); rename News _ _ _ _ => kN; (k_dflt (refine' useZT (codes_c [5, 6, 7, 8, 2] [38, 37, 138] good1 (by decide) _ _ _ _ [_, _, _, _, _] [_, _, _] [_, _] (.cons _ _ (.cons _ _ (.cons _ _ (.cons _ _ (.cons _ _ .nil))))) (.cons _ _ (.cons _ _ (.cons _ _ .nil))) ?hD ?hS) ?uB ?uF ?uX kN ?uT ?xB ?xT ?uk ?ud ?uu ?_; (case hD => (simp only [List.forall_mem_cons]; and_intros <;> first | exact Nat.ne_of_lt (by omega) | (intro p hp; nomatch hp))); (case hS => (simp only [List.forall_mem_cons]; and_intros <;> first | exact Nat.ne_of_lt (by omega) | (intro p hp; nomatch hp))); (case uB => k_asm); (case uF => k_asm); (case uX => k_asm); (case uT => k_asm); (case xB => k_asm); (case xT => k_asm); (case uk => exact rfl); (case ud => first | ktr_room | decide); (case uu => first | ktr_units | decide); k_whole; intro h4 tk4 F4 N4)))
   k_with "binaryOp Pow int int" => (k_here; k_dflt (refine pow_int_small (by decide) (by decide) (by decide) ?_))
   k_with "call ref" => 
    ((with_reducible show wpAny _ _ (call (Value.ref 487) [_, _]) _ _ _); (try dsimp only [List.nil_append, List.cons_append]); rename News _ _ _ _ => kN; (k_dflt (refine' pool_c _ _ _ ?pI ?pL ?pn _ _ _ _ _ _ _ _ _ _ _ _ _ _ _ _ _ _ _ ?uB ?uF ?uX kN ?uT ?uS ?uk ?ud ?uu ?_; (case uS => assumption); (case pI => assumption); (case pL => assumption); (case pn => omega); (case uB => k_asm); (case uF => k_asm); (case uX => k_asm); (case uT => k_asm); (case uk => exact rfl); (case ud => first | ktr_room | decide); (case uu => first | ktr_units | decide); k_whole; intro D5 s05 s15 t05 t15 k5 h5 tk5 z0 z1 F5 N5 lD5; clear kN; k_lt lD5)))
   k_with "exec Assign cons List" => (rename News _ _ _ _ => kN; (simp only [List.cons_append, List.nil_append] at kN))
   k_with "exec Assign cons ListComp" => (rename News _ _ _ _ => kN; (k_dflt (obtain ⟨tv, itv, kN2⟩ := law_gen kN; clear kN)); (k_dflt (refine LCg.Assign_ListComp_U (F₀ := by k_asm) (by rfl) (by with_unfolding_all rfl) (by with_unfolding_all rfl) (by decide) (by rfl) (by decide) (by rfl) (by rfl) (by rfl) ?_)))
   k_with "call ref" => first
    | ((with_reducible show wpAny _ _ (call (Value.ref 501) [_, _]) _ _ _); (try dsimp only [List.nil_append, List.cons_append]); (k_dflt (refine' useOne w0 w1 itv ⟨by decide, by decide⟩ ?U ?hm ?hT ?uB ?uF ?uX ?uN ?uT ?uk ?ud ?uu ?_; (case uN => k_asm); (case hm => k_mem); (case U => k_updF); (case hT => first | k_ne | exact Nat.ne_of_gt (by omega)); (case uB => k_asm); (case uF => k_asm); (case uX => k_asm); (case uT => k_asm); (case uk => exact rfl); (case ud => first | ktr_room | decide); (case uu => first | ktr_units | decide); k_whole; intro f7 tf7 s07 s17 t07 t17 k7 h6 tk6 f70 f71 z70 z71 F6 N6; (try dsimp only at N6))))
    | ((with_reducible show wpAny _ _ (call (Value.ref 555) [Value.ref D8, _]) _ _ _); (try dsimp only [List.nil_append, List.cons_append]); rename News _ _ _ _ => kN; (k_dflt (refine' useZT (codes_c hs codes26 hgx (fun _ h => h) _ D8 _ _ ys [_, _, _, _, _, _, _, _, _, _, _, _, _, _, _, _, _, _, _, _, _, _, _, _, _, _] [_, _, _, _] i1 (.cons _ _ (.cons _ _ (.cons _ _ (.cons _ _ (.cons _ _ (.cons _ _ (.cons _ _ (.cons _ _ (.cons _ _ (.cons _ _ (.cons _ _ (.cons _ _ (.cons _ _ (.cons _ _ (.cons _ _ (.cons _ _ (.cons _ _ (.cons _ _ (.cons _ _ (.cons _ _ (.cons _ _ (.cons _ _ (.cons _ _ (.cons _ _ (.cons _ _ (.cons _ _ .nil)))))))))))))))))))))))))) ?hD ?hS) ?uB ?uF ?uX (kst_newsOf kN (sel8 _ _ _ _ _ _ _ _)) ?uT ?xB ?xT ?uk ?ud ?uu ?_; (case hD => (simp only [List.forall_mem_cons]; and_intros <;> first | exact Nat.ne_of_lt (by omega) | (intro p hp; nomatch hp))); (case hS => (simp only [List.forall_mem_cons]; exact ⟨o8.1, o8.2.1, o8.2.2.1, o8.2.2.2, fun p hp => nomatch hp⟩)); (case uB => k_asm); (case uF => k_asm); (case uX => k_asm); (case uT => k_asm); (case xB => k_asm); (case xT => k_asm); (case uk => exact rfl); (case ud => first | ktr_room | decide); (case uu => first | ktr_units | decide); k_whole; intro h4 tk4 F4 N4; clear kN)))
    | ((with_reducible show wpAny _ _ (call (Value.ref 562) [_]) _ _ _); (try dsimp only [List.nil_append, List.cons_append]); rename News _ _ _ _ => kN; (k_dflt (refine' useN (storage_any hs hl8 D8 _ ys [_, _, _, _] i1 ?hS) ?uB ?uF ?uX kN ?uT ?uk ?ud ?uu ?_; (case hS => (simp only [List.forall_mem_cons]; exact ⟨o8.1, o8.2.1, o8.2.2.1, o8.2.2.2, fun p hp => nomatch hp⟩)); (case uB => k_asm); (case uF => k_asm); (case uX => k_asm); (case uT => k_asm); (case uk => exact rfl); (case ud => first | ktr_room | decide); (case uu => first | ktr_units | decide); k_whole; intro h4 tk4 F4 N4; clear kN)))
    | ((with_reducible show wpAny _ _ (call (Value.ref 569) [_, Value.int _ _]) _ _ _); (try dsimp only [List.nil_append, List.cons_append]); (k_dflt (refine' useVals hq9 w2 w3 ?U ?uB ?uF ?uX ?uN ?uT ?uk ?ud ?uu ?_; (case uN => k_asm); (case U => k_updF); (case uB => k_asm); (case uF => k_asm); (case uX => k_asm); (case uT => k_asm); (case uk => exact rfl); (case ud => first | ktr_room | decide); (case uu => first | ktr_units | decide); k_whole; intro s07 s17 t07 t17 k7 h6 tk6 z70 z71 F6 N6; (try dsimp only at N6))))
    | ((with_reducible show wpAny _ _ (call (Value.ref 501) [_, _]) _ _ _); (try dsimp only [List.nil_append, List.cons_append]); (k_dflt (refine' useOne (tv := [Value.int 0 _, Value.int 1 _, Value.int 2 _, Value.int 3 _, Value.int 4 _, Value.int 5 _, Value.int 6 _, Value.int 7 _, Value.int 8 _, Value.int 4 _]) (ts := [0, 1, 2, 3, 4, 5, 6, 7, 8, 4]) ?z0 ?z1 (.cons _ _ (.cons _ _ (.cons _ _ (.cons _ _ (.cons _ _ (.cons _ _ (.cons _ _ (.cons _ _ (.cons _ _ (.cons _ _ .nil)))))))))) ?hl3 ?U ?hm ?hT ?uB ?uF ?uX ?uN ?uT ?uk ?ud ?uu ?_; (case uN => k_asm); (case hm => k_mem); (case U => k_updF); (case hT => first | k_ne | exact Nat.ne_of_gt (by omega)); (case hl3 => constructor <;> simp only [List.length_cons, List.length_nil] <;> decide); (case z0 => assumption); (case z1 => assumption); (case uB => k_asm); (case uF => k_asm); (case uX => k_asm); (case uT => k_asm); (case uk => exact rfl); (case ud => first | ktr_room | decide); (case uu => first | ktr_units | decide); k_whole; intro f4 tf4 s04 s14 t04 t14 k4 h6 tk6 f40 f41 z40 z41 F6 N6; (have hq4 := getD10 f40 f41); (generalize List.getD _ f4.toNat 0 = q4 at hq4 ⊢); (try dsimp only at N6))))
   k_with "CompSrc" => (
     rename News _ _ _ _ => kN
     k_dflt (refine split2K kN ?sq1 ?sq2 fun R9 hR9 hmT hm2 hm1 oR9 kN3 => ?_)
     (k_dflt (case sq1 => exact Nat.ne_of_gt (by omega)))
     (k_dflt (case sq2 => (simp only [List.forall_mem_cons]; and_intros <;> first | exact Nat.ne_of_lt (by omega) | (intro p hp; nomatch hp))))
     clear kN
     (k_dflt (refine LCg.CompSrc.range (n := (([0, 1, 2, 3, 4, 5, 6, 7, 8, 4] : List Int).getD f4.toNat 0 - 0).toNat) (by rfl) (by k_asm) kN3 (by assumption) ?qsm ?qrs ?qsz ?_))
     (k_dflt (case qsm => exact small8 hq4))
     k_dflt (case qrs => first | exact rangeSize_nat _ _ | rfl)
     k_dflt (case qsz => exact size8 hq4)
     intro g9
     (k_dflt (refine comp_ind (fun n ys news => ∃ (s0 s1 : Int) (t0 t1 k : Nat) (hs : List Int), 0 ≤ s0 ∧ (0 ≤ s1 ∧ s1 < 2147483647) ∧ IntsAre ys hs ∧ (hs.length : Int) + n = ([0, 1, 2, 3, 4, 5, 6, 7, 8, 4] : List Int).getD f4.toNat 0 ∧ (∀ x ∈ hs, -(2^31) ≤ x ∧ x ≤ 2^31) ∧ news = (D5, srcO s0 s1 t0 t1 k) :: R9) ?_ ?_ _ _ _ _ ⟨s04, s14, t04, t14, k4, [], z40, z41, .nil, ?qle, ?qme, rfl⟩))
     k_dflt (case qle => exact len0 hq4)
     k_dflt (case qme => exact fun _ h => nomatch h)
     rotate_left
     k_dflt (
      intro k9 i9 ys news v I oI C oC D m2 h9 tk9 E9 hJ hv9 hC hx F9 N9 off ne
      refine exSrcL hJ fun s0 s1 t0 t1 kk hs w0 w1 i1 e1 b1 eJ => ?_
      subst eJ
      obtain ⟨t9, rfl⟩ := hv9
      have off0 := off
      refine and3 (show (_ ∧ _ ∧ _) ∧ _ from off) fun of1 of2 of3 => ?_
      clear off)
     rotate_left
     k_dflt (
      intro ys news hJ
      obtain ⟨s0, s1, t0, t1, kk, hs, w0, w1, i1, e1, b1, rfl⟩ := hJ
      subst hR9
      have hl8 : hs.length ≤ 8 := len8 e1 hq4
      have hgx : GoodX hs := ⟨hl8, b1⟩
      have hly := i1.length))
   k_with "eval ListComp" => ((k_dflt (refine LCt.ListComp_T (F₀ := by k_asm) (by with_unfolding_all rfl) (by decide) (by rfl) (by decide) (by rfl) ?_)))
   k_with "CompSrcT" => (
     rename News _ _ _ _ => kN
     k_dflt (refine split3K kN ?sq1 ?sq2 ?sq3 fun R9 hR9 hmT hm2 hm1 n91 n92 oR9 kN3 => ?_)
     (k_dflt (case sq1 => k_ne))
     (k_dflt (case sq2 => first | exact Ne.symm o8.1 | k_ne))
     (k_dflt (case sq3 => first | exact oR9 | assumption))
     clear kN
     (k_dflt (refine LCt.CompSrcT.ledger (its := #[_, _, _]) (k := 0) (by rfl) (by k_asm) kN3 (List.Mem.head _) (Nat.le_of_ble_eq_true rfl) ?_))
     intro g9
     (k_dflt (refine compT_ind (fun n ys news => ys = [] ∧ ∃ (s0 s1 : Int) (t0 t1 k : Nat), 0 ≤ s0 ∧ (0 ≤ s1 ∧ s1 < 2147483647) ∧ news = _ :: _ :: (D5, srcO s0 s1 t0 t1 k) :: R9) ?_ ?_ _ _ _ _ ⟨rfl, s0, s1, t0, t1, kk, w0, w1, rfl⟩))
     (k_dflt (
      intro ys9 news hJ
      obtain ⟨rfl, s2, s3, t2, t3, kj, w2, w3, rfl⟩ := hJ
      subst hR9))
     rotate_left
     (k_dflt (
      intro k9 i9 ys9 news v I oI C oC D m2 h9 tk9 E9 hJ hv9 hC hx F9 N9 off ne
      refine exSrc hJ.2 fun s2 s3 t2 t3 kj w2 w3 eJ => ?_
      obtain rfl := hJ.1
      subst eJ
      obtain ⟨q9, t9, rfl, hq9⟩ := code3 hv9
      have off0 := off
      refine and3 (show (_ ∧ _ ∧ _) ∧ _ from (show _ ∧ _ from (show _ ∧ _ from off).2).2) fun of1 of2 of3 => ?_
      clear off)))
   k_with "FinA" => ((unfold LCg.FinA); intro D8 h8 tk8 F8 N8 o8; (try simp only [LCg.Off1, and_true] at o8); (try simp only [List.nil_append, List.cons_append] at N8); (try dsimp only))
   k_with "CompEnd" => (k_dflt (
      rename News _ _ _ _ => kN
      refine LCg.CompEnd.intro (by assumption) kN ((D5, srcO s07 s17 t07 t17 k7) :: _) (fun p hp => hp) off0 trivial ⟨s07, s17, t07, t17, k7, hs ++ [someL.getD f7.toNat 0], z70, z71, ints_snoc i1 _ _, lenS e1, some_snoc b1 f70 f71, rfl⟩))
   k_with "CompEnd" => ((k_dflt (
      rename News _ _ _ _ => kN
      refine LCg.CompEnd.intro (by assumption) kN (_ :: _ :: (D5, srcO s07 s17 t07 t17 k7) :: _) (fun p hp => hp) off0 (by lcg_src) ⟨rfl, s07, s17, t07, t17, k7, z70, z71, rfl⟩)))
   k_steps)
end

end Mine

theorem PySem.Challenge.cw_pf0201_01_holds : PySem.Challenge.rw_pf0201_01.Holds := by
  exact Mine.law_all
