import PyProof.Rows.All
import Wide.All
import OpenK.AllK
import Wide.FinOn
import PySem.Challenge.RW_pq0111_01
set_option Elab.async false
set_option linter.unusedVariables false
set_option linter.unusedSimpArgs false
set_option maxRecDepth 100000

section
open PySem PySem.W PyProof.Rows
set_option maxHeartbeats 8000000
namespace Mine
/-- the top's run over the heap as a tree -/
noncomputable def topRT (ok : Thread → Bool) (stp : SharedT → Thread → Option (SharedT × Thread)) : Nat → SharedT → Thread → Option SharedT
  | 0, _, _ => none
  | n + 1, s, t => match through t with
    | true => some s
    | false => match ok t with
      | false => none
      | true => match stp s t with
        | some r => topRT ok stp n r.1 r.2
        | none => none
theorem topRT_of {tb : String → Option Builtin} {p : Program} {w : World} {n₀ : Nat} {ann : Option Value} : ∀ {n : Nat} {s s' : SharedT} {t : Thread}, topRT (stepOk n₀ ann) (stepT (denote tb) p w) n s t = some s' → topRun tb p w n₀ ann n s.abs t = some s'.abs
  | 0, _, _, _, h => by cases h
  | n + 1, s, s', t, h => by
    unfold topRT at h
    unfold topRun
    cases ht : through t with
    | true => rw [ht] at h; cases h; rfl
    | false =>
      rw [ht] at h
      cases hk : stepOk n₀ ann t with
      | false => rw [hk] at h; cases h
      | true =>
        rw [hk] at h
        cases hs : stepT (denote tb) p w s t with
        | none => rw [hs] at h; cases h
        | some r => rw [hs] at h; rw [stepT_spec (s' := r.1) (t' := r.2) hs]; exact topRT_of h
theorem alive_some {o : Obj} (h : (alive o).isSome = true) : alive o = some o := by
  obtain ⟨c, d, dt, sl⟩ := o
  cases dt <;> first | rfl | cases h
theorem gets_of {T : BT} {n : Nat} {life : Life} : ∀ {as : List Nat} {K : Frag}, (as.map fun a => (Nat.blt a n, T.get a)) = K.map (fun p => (true, some p.2)) → K.all (fun p => (alive p.2).isSome) = true →
    as.map (absHeap T n life).get? = K.map fun p => some p.2
  | [], [], _, _ => rfl
  | [], _ :: _, h, _ => by cases h
  | _ :: _, [], h, _ => by cases h
  | a :: as, p :: K, h, al => by
    rw [List.map_cons, List.map_cons] at h
    injection h with h1 h2
    injection h1 with h3 h4
    rw [List.all_cons, Bool.and_eq_true] at al
    rw [List.map_cons, List.map_cons, gets_of h2 al.2, abs_get (Nat.le_of_ble_eq_true h3) h4, alive_some al.1]
/-- the top in one check: its run over the tree, and every look at what it leaves -/
theorem left_of {p q : Program} {loose : List Str} {Xt : Shared → Bool} {K : Params → Frag} {as : List Addr} {e : ∀ P, as = (K P).map (·.1)} {N : Nat} {H₀ : Params → Heap} {T₀ : Params → BT} {life : Params → Life} {gs₀ : Array GenState} {d₀ : Drawn} {k₀ : Nat} {m₀ : Nat} {ann : Option Value}
    (open_ : ∀ w : World, (fencedOpening treeTable p w N).map (fun s => (s.heap, s.gens, s.drawn, s.toks)) = some (H₀ w.params, gs₀, d₀, k₀))
    (size : ∀ w : World, ((H₀ w.params).isNs mainGlobals && gs₀.size == 0, (H₀ w.params).objs.size, (H₀ w.params).nsMap mainGlobals "__annotations__") = (true, m₀, ann))
    (tree : ∀ w : World, H₀ w.params = absHeap (T₀ w.params) m₀ (life w.params))
    (al : ∀ w : World, (K w.params).all (fun p => (alive p.2).isSome) = true)
    (run : ∀ (w : World) (os : OsState), (topRT (stepOk m₀ ann) (stepT (denote treeTable) p w) N ⟨T₀ w.params, m₀, life w.params, gs₀, d₀, k₀, os⟩ (topStub p)).map (fun s =>
        (staticsOk (importedModules p.main.body) (H₀ w.params) s.abs.heap && namesBound p s.abs.heap && gensDone s.abs && laidKept (H₀ w.params) s.abs.heap, openSeen q loose (importedModules p.main.body) Xt true s.abs, as.map fun a => (Nat.blt a s.n, s.tree.get a))) =
      some (true, openGood q loose, (K w.params).map fun p => (true, some p.2))) :
    LeftO p q loose Xt (Hook.obs (kHook K as e)) (Hook.val (kHook K as e)) N := fun w => by
  obtain ⟨⟨h, gs, d, k, os⟩, e, e'⟩ := Option.map_eq_some_iff.mp (open_ w)
  obtain ⟨rfl, rfl, rfl, rfl⟩ : h = H₀ w.params ∧ gs = gs₀ ∧ d = d₀ ∧ k = k₀ := by simpa using e'
  obtain ⟨z1, z2, z3⟩ : _ ∧ _ ∧ _ := by simpa only [Prod.mk.injEq] using size w
  obtain ⟨s, r, l⟩ := Option.map_eq_some_iff.mp (run w os)
  obtain ⟨l1, l2, l3⟩ : _ ∧ _ ∧ _ := by simpa only [Prod.mk.injEq] using l
  have r' := topRT_of r
  have t : topFrom treeTable p w N ⟨H₀ w.params, gs, d, k, os⟩ = some s.abs := by
    unfold topFrom
    dsimp only
    rw [z1, z2, z3]
    have r'' : topRun treeTable p w m₀ ann N ⟨H₀ w.params, gs, d, k, os⟩ (topStub p) = some s.abs := by rw [tree w]; exact r'
    rw [r'']
    show (match staticsOk (importedModules p.main.body) (H₀ w.params) s.abs.heap && namesBound p s.abs.heap && gensDone s.abs && laidKept (H₀ w.params) s.abs.heap with | true => _ | false => _) = _
    rw [l1]
  unfold openEnds
  rw [e]
  show (topFrom treeTable p w N _).map _ = _
  rw [t]
  exact congrArg some (Prod.ext l2 (gets_of l3 (al w)))
noncomputable def vw : Program := view PySem.Challenge.pw_pq0111_01 [17]
noncomputable def lo : List PySem.Str := ["_wall", "HeapError", "TermFault", "is_op", "parts", "key_of", "Bank", "_law_leaves", "_law_draw", "_law_ops", "_law_all", "_law_row", "_law_is_ahead", "_law_terms"]
noncomputable def T0 (P : Params) : BT := (.node (boot_o_0 P) (.node (boot_o_1 P) (.node (boot_o_3 P) (.node (boot_o_7 P) .nil .nil) .nil) (.node (boot_o_5 P) (.node (boot_o_9 P) .nil .nil) .nil)) (.node (boot_o_2 P) (.node (boot_o_4 P) (.node (boot_o_8 P) .nil .nil) .nil) (.node (boot_o_6 P) (.node (boot_o_10 P) .nil .nil) .nil)))
theorem open1 : ∀ w : World, (fencedOpening treeTable PySem.Challenge.pw_pq0111_01 w 3122).map (fun s => (s.heap, s.gens, s.drawn, s.toks)) = some (boot_heap w.params, Array.mk [], boot_drawn, boot_toks) := boot_open rfl rfl fun _ => rfl
theorem size1 : ∀ w : World, ((boot_heap w.params).isNs mainGlobals && (Array.mk [] : Array GenState).size == 0, (boot_heap w.params).objs.size, (boot_heap w.params).nsMap mainGlobals "__annotations__") = (true, 11, some (.ref 6)) := by
  intro w
  kernel_rfl
noncomputable def L0 (P : Params) : Life := (boot_heap P).life
theorem tree1 : ∀ w : World, boot_heap w.params = absHeap (T0 w.params) 11 (L0 w.params) := by
  intro w
  kernel_rfl
local macro_rules
  | `(tactic| o_head $H) => `(tactic| (
    refine holds_open (q := Mine.vw) (loose := Mine.lo) (Xt := fun s => xlAt Mine.vw [] s && recOk [] s) (XP := XL Mine.vw []) (Yf := Hook.obs $H) (Ya := Hook.val $H) (YP := Hook.says $H) (N := 3122)
      (Mine.left_of Mine.open1 Mine.size1 Mine.tree1 ?hal ?hl) (Hook.of $H) (Hook.keeps $H) (fun s e => xl_of s (Bool.and_eq_true_iff.mp e).1) XL.keeps (by rfl) (by rfl) (by rfl) (fun s e => recFacts_of (Bool.and_eq_true_iff.mp e).2)
      (by rfl) (by assumption) (by decide +kernel) ⟨rfl, rfl, rfl, rfl, rfl, by decide +kernel⟩ ?hw ?hc
    (case hal => (intro w; kernel_rfl))
    (case hl => (intro w os; rw [PySem.W.Fast.te6613529449190102663, PySem.W.Fast.te10156331382660048174, PySem.W.Fast.te11892475500146522536, PySem.W.Fast.te14364793385576792824, PySem.W.Fast.te4187177175401517315]; kernel_rfl))))
open_top hd for PySem.Challenge.rw_pq0111_01
end Mine

end

section
open PySem PySem.W PySem.Calls PyProof.Rows
namespace Mine

noncomputable abbrev KK (w : World) : Frag := hd.heap_39 w.params

/-- what is known of the heap when law is called -/
structure Base (w : World) (hb : Heap) : Prop where
  X : (KK w).In hb
  T : ∃ p loose mg mb, TopRead p loose mg mb hb

/-- tuple and list objects as the program makes them -/
noncomputable abbrev tupO (vs : List Value) (n : Nat) : Obj := { cls := .type "tuple", dict := none, data := .seq vs.toArray n, slots := #[] }
noncomputable abbrev lstO (vs : List Value) (n : Nat) : Obj := { cls := .type "list", dict := none, data := .seq vs.toArray n, slots := #[] }
noncomputable def TupAt (h : Heap) (a : Addr) (vs : List Value) : Prop := ∃ n, h.get? a = some (tupO vs n)
noncomputable def LstAt (h : Heap) (a : Addr) (vs : List Value) : Prop := ∃ n, h.get? a = some (lstO vs n)

/-- h' comes behind h: but for the objects of Y (and new ones) all stands; tuples stand always -/
structure Ext (Y : Addr → Prop) (h h' : Heap) : Prop where
  live : ∀ b o, h.get? b = some o → ∃ o', h'.get? b = some o'
  keep : ∀ b o, ¬ Y b → h.get? b = some o → h'.get? b = some o
  tup : ∀ b vs n, h.get? b = some (tupO vs n) → h'.get? b = some (tupO vs n)

noncomputable abbrev None : Addr → Prop := fun _ => False

namespace Ext
variable {Y Z : Addr → Prop} {h h₁ h₂ : Heap}
theorem refl : Ext Y h h := ⟨fun _ o e => ⟨o, e⟩, fun _ _ _ e => e, fun _ _ _ e => e⟩
theorem mono (x : Ext Y h h₁) (k : ∀ b, Y b → Z b) : Ext Z h h₁ := ⟨x.live, fun b o n e => x.keep b o (fun y => n (k b y)) e, x.tup⟩
theorem of (x : Ext None h h₁) : Ext Y h h₁ := x.mono fun _ => False.elim
theorem trans (x : Ext Y h h₁) (y : Ext Y h₁ h₂) : Ext Y h h₂ :=
  ⟨fun b o e => let ⟨o', e'⟩ := x.live b o e; y.live b o' e', fun b o n e => y.keep b o n (x.keep b o n e), fun b vs n e => y.tup b vs n (x.tup b vs n e)⟩
/-- what the second step changes is either of Y or was not there at h -/
theorem trans' (x : Ext Y h h₁) (y : Ext Z h₁ h₂) (k : ∀ b, Z b → Y b ∨ h.get? b = none) : Ext Y h h₂ :=
  ⟨fun b o e => let ⟨o', e'⟩ := x.live b o e; y.live b o' e',
   fun b o n e => y.keep b o (fun z => (k b z).elim n fun q => by rw [q] at e; cases e) (x.keep b o n e), fun b vs n e => y.tup b vs n (x.tup b vs n e)⟩
theorem more (x : Ext Y h h₁) (y : Ext None h₁ h₂) : Ext Y h h₂ := x.trans y.of
theorem grown (hk : ∀ b o, h.get? b = some o → h₁.get? b = some o) : Ext Y h h₁ := ⟨fun _ o e => ⟨o, hk _ _ e⟩, fun _ _ _ e => hk _ _ e, fun _ _ _ e => hk _ _ e⟩
theorem push {o : Obj} : Ext Y h (h.push o) := grown (fun _ _ e => Heap.get?_push_of_some _ e)
/-- one object that is no tuple is changed -/
theorem upd {a : Addr} {o o' : Obj} (hs : Heap.SameBut a h h₁) (ho : h.get? a = some o) (hn : ∀ vs n, o ≠ tupO vs n) (ho' : h₁.get? a = some o') : Ext (· = a) h h₁ :=
  ⟨fun b x e => if q : b = a then ⟨o', q ▸ ho'⟩ else ⟨x, (hs.2 b q).trans e⟩, fun b _ n e => (hs.2 b n).trans e,
   fun b vs n e => (hs.2 b fun q => hn vs n (by subst q; rw [ho] at e; exact Option.some.inj e)).trans e⟩
theorem new (x : Ext Y h h₁) {a : Addr} (k : h₁.get? a = none) : h.get? a = none := by
  cases e : h.get? a with
  | none => rfl
  | some o => obtain ⟨o', e'⟩ := x.live a o e; rw [k] at e'; cases e'
end Ext
theorem size_none (h : Heap) : h.get? h.objs.size = none := by
  cases e : h.get? h.objs.size with
  | none => rfl
  | some o => exact absurd (Heap.lt_size e) (Nat.lt_irrefl _)

/-- the base stands -/
noncomputable def St (hb h : Heap) : Prop := ∀ b o, hb.get? b = some o → h.get? b = some o
theorem St.to {hb : Heap} {Y : Addr → Prop} {h h₁ : Heap} (x : St hb h) (e : Ext Y h h₁) (k : ∀ b, Y b → hb.get? b = none := by intro _ h; exact h.elim) : St hb h₁ :=
  fun b o q => e.keep b o (fun y => by rw [k b y] at q; cases q) (x b o q)
theorem St.none {hb h : Heap} {b : Addr} (x : St hb h) (k : h.get? b = none) : hb.get? b = none := by
  cases q : hb.get? b with
  | none => rfl
  | some o => rw [x b o q] at k; cases k

section facts
variable {Y : Addr → Prop} {h h₁ : Heap} {a : Addr} {vs : List Value}
theorem TupAt.to (x : TupAt h a vs) (e : Ext Y h h₁) : TupAt h₁ a vs := let ⟨n, h⟩ := x; ⟨n, e.tup _ _ _ h⟩
theorem LstAt.to (x : LstAt h a vs) (e : Ext Y h h₁) (k : ¬ Y a := by exact id) : LstAt h₁ a vs := let ⟨n, q⟩ := x; ⟨n, e.keep _ _ k q⟩
theorem ns_to {L : Addr} {m : Str → Option Value} (x : h.Ns L m) (e : Ext Y h h₁) (k : ¬ Y L := by exact id) : h₁.Ns L m :=
  let ⟨o, es, ep, q, r⟩ := x; ⟨o, es, ep, e.keep _ _ k q, r⟩
theorem TupAt.isTuple (x : TupAt h a vs) : h.IsTuple a vs.toArray := let ⟨n, h⟩ := x; ⟨_, h, rfl, n, rfl⟩
theorem LstAt.isList (x : LstAt h a vs) : h.IsList a vs.toArray := let ⟨n, h⟩ := x; ⟨_, h, rfl, n, rfl⟩
theorem TupAt.inj {ws : List Value} (x : TupAt h a vs) (y : TupAt h a ws) : vs = ws := by
  obtain ⟨n, e⟩ := x; obtain ⟨k, e'⟩ := y
  rw [e] at e'
  have := congrArg Obj.data (Option.some.inj e')
  simp only [Data.seq.injEq] at this
  exact (List.toArray_inj this.1)
theorem TupAt.some (x : TupAt h a vs) : h.get? a ≠ none := let ⟨_, e⟩ := x; by rw [e]; exact nofun
theorem LstAt.some (x : LstAt h a vs) : h.get? a ≠ none := let ⟨_, e⟩ := x; by rw [e]; exact nofun
theorem ns_some {L : Addr} {m : Str → Option Value} (x : h.Ns L m) : h.get? L ≠ none := by
  obtain ⟨o, _, _, e, _⟩ := x; rw [e]; exact nofun
theorem ns_ne_tup {L : Addr} {m : Str → Option Value} (x : h.Ns L m) : ∀ o, h.get? L = some o → ∀ vs n, o ≠ tupO vs n := by
  obtain ⟨o, es, ep, e, hd, _⟩ := x
  intro o' e' vs n q
  rw [e] at e'
  cases e'
  rw [q] at hd
  cases hd
theorem ns_ne_lst {L : Addr} {m : Str → Option Value} (x : h.Ns L m) (y : LstAt h a vs) : a ≠ L := by
  obtain ⟨o, es, ep, e, hd, _⟩ := x
  obtain ⟨n, e'⟩ := y
  rintro rfl
  rw [e] at e'
  cases e'
  cases hd
/-- an address that is there is none that is not -/
theorem ne_new {b : Addr} (x : h.get? a ≠ none) (y : h.get? b = none) : a ≠ b := by rintro rfl; exact x y
end facts

/-- room for calls -/
structure Rm (A : Around) (k : Nat) : Prop where
  hh : A.handled = none
  depth : A.depth + k < recursionLimit
  units : A.units + 100 + 10 * k < cLine
theorem Rm.deeper {A : Around} {k : Nat} {env : Env} (x : Rm A (k + 1)) : Rm (A.deeper env) k :=
  ⟨x.hh, by have := x.depth; show A.depth + 1 + k < _; omega, by have := x.units; show A.units + 3 + 100 + 10 * k < _; omega⟩
theorem Rm.mono {A : Around} {k j : Nat} (x : Rm A k) (h : j ≤ k) : Rm A j := ⟨x.hh, by have := x.depth; omega, by have := x.units; omega⟩

/-- the state over g with another heap and other tokens -/
noncomputable def sh (g : Shared) (h : Heap) (n : Nat) : Shared := { g with heap := h, toks := n }
/-- what holds of value and heap -/
noncomputable def Post {α : Type} (g : Shared) (Q : α → Heap → Prop) (a : α) (s : Shared) : Prop := ∃ h n, s = sh g h n ∧ Q a h
/-- the weakest precondition of a tree that never raises, over heaps alone (a structure, so that no one looks into it) -/
structure W {α : Type} (prog : Program) (w : World) (g : Shared) (A : Around) (t : Sem α) (Q : α → Heap → Prop) (h : Heap) : Prop where
  go : ∀ n, wpAny (model prog w) A t (Post g Q) (fun _ _ => False) (sh g h n)

section
variable {prog : Program} {w : World} {g : Shared} {A : Around} {h : Heap} {α : Type} {t : Sem α} {Q R : α → Heap → Prop}
theorem Post.mk {a : α} {h : Heap} {n : Nat} (x : Q a h) : Post g Q a (sh g h n) := ⟨h, n, rfl, x⟩
theorem W.mono (x : W prog w g A t Q h) (k : ∀ a h', Q a h' → R a h') : W prog w g A t R h := ⟨fun n => wpAny_mono (x.go n) (fun a _ ⟨h', m, e, q⟩ => ⟨h', m, e, k a h' q⟩) fun _ _ x => x⟩
theorem W.then {n : Nat} {R : α → Shared → Prop} {E : Value → Shared → Prop} (x : W prog w g A t Q h) (k : ∀ a h' m, Q a h' → R a (sh g h' m)) : wpAny (model prog w) A t R E (sh g h n) :=
  wpAny_mono (x.go n) (fun a _ ⟨h', m, e, q⟩ => e ▸ k a h' m q) fun _ _ x => x.elim
theorem W.any {n : Nat} {E : Value → Shared → Prop} (x : W prog w g A t Q h) : wpAny (model prog w) A t (Post g Q) E (sh g h n) := wpAny_mono (x.go n) (fun _ _ x => x) fun _ _ x => x.elim
theorem W.pure {a : α} (x : Q a h) : W prog w g A (Pure.pure a) Q h := ⟨fun _ => wpAny_pure ⟨_, _, rfl, x⟩⟩
end

theorem W.hideL {α : Type} {prog : Program} {w : World} {g : Shared} {A : Around} {t : Sem α} {Q : α → Heap → Prop} {h : Heap} (x : let K := Q; W prog w g A t K h) : W prog w g A t Q h := x
end Mine

end

section
open PySem PySem.W PySem.Calls PyProof.Rows
namespace Mine

section
variable {prog : Program} {w : World} {g : Shared} {hb : Heap} {A : Around} {h : Heap} {env : Env}

/-- statements -/
theorem x_nil {Q : Flow → Heap → Prop} (k : Q .next h) : W prog w g A (execs [] env) Q h := ⟨fun _ => wpAny_execs_nil (.mk k)⟩
theorem x_cons {st : Stmt} {rest : List Stmt} {Q : Flow → Heap → Prop} (k : W prog w g A (exec st env) (fun f h' => match f with | .next => W prog w g A (execs rest env) Q h' | f => Q f h') h) : W prog w g A (execs (st :: rest) env) Q h :=
  ⟨fun _ => wpAny_execs_cons (k.then fun f h' m x => by cases f <;> first | exact x.go _ | exact .mk x)⟩
theorem x_ret {e : Expr} {pos : Pos} {Q : Flow → Heap → Prop} (k : W prog w g A (eval e env) (fun v => Q (.ret v)) h) : W prog w g A (exec (.Return (some e) pos) env) Q h := ⟨fun n => wpAny_Return_some (k.then fun _ _ _ x => .mk x)⟩
theorem x_if {test : Expr} {body orelse : List Stmt} {pos : Pos} {Q : Flow → Heap → Prop} (k : W prog w g A (isTrue test env (eval test env)) (fun b h₂ => if b = true then W prog w g A (execs body env) Q h₂ else W prog w g A (execs orelse env) Q h₂) h) :
    W prog w g A (exec (.If test body orelse pos) env) Q h :=
  ⟨fun n => wpAny_If (k.then fun b h' m x => by cases b <;> exact x.go _)⟩
theorem x_assign {x : Str} {pos' pos : Pos} {value : Expr} {Q : Flow → Heap → Prop} (k : W prog w g A (eval value env) (fun v h₁ => W prog w g A (storeName env x v) (fun _ => Q .next) h₁) h)
    (hs : swapsWith value (some (.Name x pos')) pos.line env = pure false := by rfl) : W prog w g A (exec (.Assign [.Name x pos'] value pos) env) Q h :=
  ⟨fun n => wpAny_Assign_Name (k.then fun _ _ _ x => x.then fun _ _ _ x => .mk x) hs⟩
theorem x_setitem {o i value : Expr} {pos' pos : Pos} {Q : Flow → Heap → Prop}
    (k : W prog w g A (eval value env) (fun v h₁ => W prog w g A (eval o env) (fun ov h₂ => W prog w g A (eval i env) (fun iv h₃ => W prog w g A (setItem ov iv v) (fun _ => Q .next) h₃) h₂) h₁) h)
    (hs : swapsWith value (some (.Subscript o i pos')) pos.line env = pure false := by rfl) : W prog w g A (exec (.Assign [.Subscript o i pos'] value pos) env) Q h :=
  ⟨fun n => wpAny_Assign_Subscript (k.then fun _ _ _ x => x.then fun _ _ _ x => x.then fun _ _ _ x => x.then fun _ _ _ x => .mk x) hs⟩
theorem x_expr {e : Expr} {pos : Pos} {Q : Flow → Heap → Prop} (k : W prog w g A (eval e env) (fun v h' => v = .none ∧ Q .next h') h)
    (hi : interactive env = false := by rfl) (hs : swapsWith e none pos.line env = pure false := by rfl) : W prog w g A (exec (.Expr e pos) env) Q h :=
  ⟨fun n => wpAny_Expr (k.then fun v _ _ x => by obtain ⟨rfl, x⟩ := x; exact .mk x) hi hs⟩

/-- tests -/
theorem b_cmp {l r : Expr} {op : CmpOp} {pos : Pos} {whole : Sem Value} {Q : Bool → Heap → Prop}
    (k : W prog w g A (eval l env) (fun a h₁ => W prog w g A (eval r env) (fun b h₂ => W prog w g A (compareOp op a b) (fun c h₃ => ∃ q, c = .bool q ∧ Q q h₃) h₂) h₁) h)
    (hm : behindInMarks op r = false := by with_unfolding_all rfl) : W prog w g A (isTrue (.Compare l [op] [r] pos) env whole) Q h :=
  ⟨fun n => wpAny_isTrue_Compare1 (k.then fun _ _ _ x => x.then fun _ _ _ x => x.then fun _ _ _ ⟨_, e, x⟩ => e ▸ wpAny_truthy_bool (.mk x)) hm⟩
theorem b_not {x : Expr} {pos : Pos} {whole : Sem Value} {Q : Bool → Heap → Prop} (k : W prog w g A (isTrue x env (eval x env)) (fun b h₁ => Q (!b) h₁) h) : W prog w g A (isTrue (.UnaryOp .Not x pos) env whole) Q h :=
  ⟨fun n => wpAny_isTrue_Not (k.then fun _ _ _ x => .mk x)⟩
theorem b_or2 {x y : Expr} {pos : Pos} {whole : Sem Value} {Q : Bool → Heap → Prop} (k : W prog w g A (isTrue x env (eval x env)) (fun b h₁ => if b = true then Q true h₁ else W prog w g A (isTrue y env (eval y env)) Q h₁) h) :
    W prog w g A (isTrue (.BoolOp .Or [x, y] pos) env whole) Q h :=
  ⟨fun n => wpAny_isTrue_BoolOp (wpAny_allTrue_Or_cons (k.then fun b _ _ q => by
    cases b
    · exact wpAny_allTrue_Or_cons (q.then fun b _ _ q => by cases b <;> first | exact wpAny_allTrue_Or_nil (.mk q) | exact .mk q)
    · exact .mk q))⟩
theorem b_and2 {x y : Expr} {pos : Pos} {whole : Sem Value} {Q : Bool → Heap → Prop} (k : W prog w g A (isTrue x env (eval x env)) (fun b h₁ => if b = true then W prog w g A (isTrue y env (eval y env)) Q h₁ else Q false h₁) h) :
    W prog w g A (isTrue (.BoolOp .And [x, y] pos) env whole) Q h :=
  ⟨fun n => wpAny_isTrue_BoolOp (wpAny_allTrue_And_cons (k.then fun b _ _ q => by
    cases b
    · exact .mk q
    · exact wpAny_allTrue_And_cons (q.then fun b _ _ q => by cases b <;> first | exact wpAny_allTrue_And_nil (.mk q) | exact .mk q)))⟩
theorem b_val {e : Expr} {whole : Sem Value} {Q : Bool → Heap → Prop} (k : W prog w g A whole (fun v h₁ => ∃ q, v = .bool q ∧ Q q h₁) h)
    (he : isTrue e env whole = (do let v ← whole; standAt e.pos; holding [v] (truthy v)) := by rfl) : W prog w g A (isTrue e env whole) Q h :=
  ⟨fun n => wpAny_isTrue_value (k.then fun _ _ _ ⟨_, e, x⟩ => e ▸ wpAny_truthy_bool (.mk x)) he⟩

theorem St.K (B : Base w hb) (S : St hb h) : (KK w).In h := B.X.keeps S

/-- a def of the top without cells is called -/
theorem call_def {k : Nat} {name qual : Str} {params : Arguments} {body : List Stmt} {scope : Scope} {dV kV doc pm cdv ct oc : Value} {an od : Option Addr} {osl : Array (Option Value)} {f : Addr}
    {args : List Value} (binds : List (Str × Value)) {Q : Value → Heap → Prop}
    (B : Base w hb) (S : St hb h) (R : Rm A (k + 1))
    (ho : (KK w).lookup f = some ⟨oc, od, .func (fnOf name qual params body scope dV kV doc pm an cdv ct), osl⟩) (hcd : codeIn (KK w) cdv qual = true)
    (hbind : bindArgs (fnOf name qual params body scope dV kV doc pm an cdv ct) ⟨args, []⟩ = pure binds)
    (hloc : (binds.all fun x => decide (scope.names.lookup x.1 = some .local)) = true)
    (hcell : ∀ x ∈ scope.names, x.2 ≠ .cell)
    (hco : scope.isCoroutine = false) (hgen : scope.isGenerator = false) (hk : scope.kind = .function)
    (H : ∀ h₁ L, Ext None h h₁ → St hb h₁ → Rm (A.deeper (envOf qual scope L f cdv)) k → h.get? L = none → h₁.Ns L (fun x => binds.reverse.lookup x) →
      W prog w g (A.deeper (envOf qual scope L f cdv)) (execs body (envOf qual scope L f cdv)) (fun fl h' => Q (match fl with | .ret v => v | _ => .none) h') h₁) :
    W prog w g A (call (.ref f) args []) Q h := by
  obtain ⟨p, loose, mg, mb, T⟩ := B.T
  refine ⟨fun n => wpAny_call (codeAny_call_def (fd := fnOf name qual params body scope dV kV doc pm an cdv ct) (body := body) (binds := binds) (by have := R.depth; omega) (S.K B _ _ ho) rfl (T.nolimit.keeps S)
    (codeRec_of (S.K B) hcd) rfl (BindsTo.of_eq hbind) hcell (locs hloc) (fun h₀ hns hk₀ => ?_) hco hgen hk)⟩
  have e : Ext None h h₀ := Ext.grown hk₀
  exact (H h₀ h.objs.size e (S.to e) R.deeper (size_none _) hns).then fun _ _ _ x => .mk x

/-- names -/
theorem e_local {x : Str} {pos : Pos} {m : Str → Option Value} {v : Value} {Q : Value → Heap → Prop} (hn : h.Ns env.locals m) (hv : m x = some v) (k : Q v h)
    (hk : env.scope.kind = .function := by rfl) (hl : env.kindOf x = some .local := by rfl) (hd : (x == ("__debug__" : Str)) = false := by decide) : W prog w g A (eval (.Name x pos) env) Q h :=
  ⟨fun n => wpAny_Name (wpAny_loadName_local hk hl hn hv (.mk k)) hd⟩
/-- a builtin's name; a name of the top -/
structure BiN (w : World) (x : Str) (v : Value) : Prop where
  e : nsIn (KK w) mainGlobals x = some none
  hv : bootBuiltins x = some v
  hn : x ≠ "__name__"
  hd : (x == ("__debug__" : Str)) = false
structure GlN (w : World) (x : Str) (v : Value) : Prop where
  e : nsIn (KK w) mainGlobals x = some (some v)
  hk : keepIn (KK w) v = true
  hd : (x == ("__debug__" : Str)) = false
theorem e_glob {x : Str} {pos : Pos} {v : Value} {Q : Value → Heap → Prop} (B : Base w hb) (S : St hb h) (N : GlN w x v) (k : Q v h)
    (hk : env.scope.kind = .function := by rfl) (hx : env.kindOf x = some .globalImplicit := by rfl) (hg : env.globals = mainGlobals := by rfl) : W prog w g A (eval (.Name x pos) env) Q h := by
  obtain ⟨p, loose, mg, mb, T⟩ := B.T
  exact ⟨fun n => Name_function_global hk hx (loadGlobal_global (hg ▸ T.g.keeps S) (mg_of B.X T.g N.e) (.mk k)) N.hd⟩
theorem e_bi {x : Str} {pos : Pos} {v : Value} {Q : Value → Heap → Prop} (B : Base w hb) (S : St hb h) (N : BiN w x v) (k : Q v h)
    (hk : env.scope.kind = .function := by rfl) (hx : env.kindOf x = some .globalImplicit := by rfl) (hg : env.globals = mainGlobals := by rfl)
    (hbi : env.builtins = builtinsNs := by rfl) : W prog w g A (eval (.Name x pos) env) Q h := by
  obtain ⟨p, loose, mg, mb, T⟩ := B.T
  exact ⟨fun n => Name_function_global hk hx (loadGlobal_builtin (hg ▸ T.g.keeps S) (mg_none_of B.X T.g N.e) (hbi ▸ T.b.keeps S) ((T.builtins x N.hn).trans N.hv) (.mk k)) N.hd⟩
/-- a local name is stored -/
theorem st_local {x : Str} {m : Str → Option Value} {v : Value} {Q : Unit → Heap → Prop} (hn : h.Ns env.locals m)
    (k : ∀ h₁, Ext (· = env.locals) h h₁ → h₁.Ns env.locals (fun y => if y = x then some v else m y) → Q () h₁)
    (hk : env.scope.kind = .function := by rfl) (hl : env.kindOf x = some .local := by rfl) : W prog w g A (storeName env x v) Q h := by
  refine ⟨fun n => wpAny_storeName_local hl hn (fun h' hn' hs => .mk (k _ ?_ hn')) (by rw [hk]; rfl)⟩
  obtain ⟨o, es, ep, e, _⟩ := id hn
  obtain ⟨o', es', ep', e', _⟩ := id hn'
  exact Ext.upd hs e (ns_ne_tup hn o e) e'

/-- items -/
theorem i_nil {pos : Pos} {Q : List Value → Heap → Prop} (k : Q [] h) : W prog w g A (spliced (backTo pos (starEach [] env))) Q h := ⟨fun n => wpAny_items_nil (.mk k)⟩
theorem i_cons {pos : Pos} {e : Expr} {rest : List Expr} {Q : List Value → Heap → Prop}
    (k : W prog w g A (eval e env) (fun v h₁ => W prog w g A (spliced (backTo pos (starEach rest env))) (fun vs h₂ => Q (v :: vs) h₂) h₁) h)
    (he : starEach (e :: rest) env = (false, eval e env) :: starEach rest env := by rfl) : W prog w g A (spliced (backTo pos (starEach (e :: rest) env))) Q h :=
  ⟨fun n => wpAny_items_cons (k.then fun _ _ _ x => x.then fun _ _ _ x => .mk x) he⟩

/-- calls by a name -/
theorem keeps_any {f : Value} (B : Base w hb) (hk : keepIn (KK w) f = true) : ∀ h : Heap, (∀ b o, hb.get? b = some o → h.get? b = some o) → ∃ k, (k = Keeper.frame ∨ k = Keeper.machine ∨ k = Keeper.boundFrame) ∧ Looks (model prog w) h (keeperOf f) k :=
  fun h S => keeps_K hk h (B.X.keeps S)
theorem callWith_any {f : Value} {first : List Value} {args : List Expr} {pos : Pos} {Q : Value → Heap → Prop}
    (hk : ∀ h : Heap, (∀ b o, hb.get? b = some o → h.get? b = some o) → ∃ k, (k = Keeper.frame ∨ k = Keeper.machine ∨ k = Keeper.boundFrame) ∧ Looks (model prog w) h (keeperOf f) k)
    (k : W prog w g A (spliced (backTo pos (starEach args env))) (fun vs h₁ => St hb h₁ ∧ W prog w g A (call f (first ++ vs)) Q h₁) h)
    (hpl : (backTo pos (starEach args env)).any (·.1) = false) :
    W prog w g A (callWith pos f first (backTo pos (starEach args env)) []) Q h := by
  refine ⟨fun n => callWith_of (P := fun h => ∀ b o, hb.get? b = some o → h.get? b = some o) (by rw [hpl]; rfl) hk ?_⟩
  have h' := k.then (n := n) (E := fun _ _ => False) (R := fun vs s₁ => (∀ b o, hb.get? b = some o → s₁.heap.get? b = some o) ∧ wpAny (model prog w) A (call f (first ++ vs)) (Post g Q) (fun _ _ => False) s₁) fun _ _ m x => ⟨x.1, x.2.go m⟩
  cases hq : backTo pos (starEach args env) with
  | nil =>
    rw [hq] at h'
    exact fun Γ p hΓ => evalArgs_nil3 (h' Γ p hΓ) Γ p hΓ
  | cons a r =>
    obtain ⟨b, x⟩ := a
    rw [hq] at h' hpl
    have hb' : b = false := by simp at hpl; exact hpl.1
    subst hb'
    exact evalArgs_plain h'
theorem call_name {x : Str} {p pos : Pos} {args : List Expr} {Q : Value → Heap → Prop}
    (k : W prog w g A (eval (.Name x p) env) (fun f h₁ => W prog w g A (callWith pos f [] (backTo pos (starEach args env)) []) Q h₁) h) : W prog w g A (eval (.Call (.Name x p) args [] pos) env) Q h :=
  ⟨fun n => wpAny_Call_NameR (k.then fun _ _ _ x => x.go _)⟩
/-- a def or class of the top, a builtin, a type, called by its name -/
theorem c_glob {x : Str} {p pos : Pos} {f : Value} {args : List Expr} {Q : Value → Heap → Prop} (B : Base w hb) (S : St hb h) (N : GlN w x f)
    (k : W prog w g A (spliced (backTo pos (starEach args env))) (fun vs h₁ => St hb h₁ ∧ W prog w g A (call f vs) Q h₁) h)
    (hk : env.scope.kind = .function := by rfl) (hx : env.kindOf x = some .globalImplicit := by rfl) (hg : env.globals = mainGlobals := by rfl)
    (hpl : (backTo pos (starEach args env)).any (·.1) = false := by rfl) : W prog w g A (eval (.Call (.Name x p) args [] pos) env) Q h :=
  call_name (e_glob B S N (callWith_any (keeps_any B N.hk) k hpl) hk hx hg)
theorem c_bi {x : Str} {p pos : Pos} {f : Value} {args : List Expr} {Q : Value → Heap → Prop} (B : Base w hb) (S : St hb h) (N : BiN w x f)
    (k : W prog w g A (spliced (backTo pos (starEach args env))) (fun vs h₁ => St hb h₁ ∧ W prog w g A (call f vs) Q h₁) h)
    (hf : keeperOf f = pure .machine := by rfl)
    (hk : env.scope.kind = .function := by rfl) (hx : env.kindOf x = some .globalImplicit := by rfl) (hg : env.globals = mainGlobals := by rfl)
    (hbi : env.builtins = builtinsNs := by rfl) (hpl : (backTo pos (starEach args env)).any (·.1) = false := by rfl) :
    W prog w g A (eval (.Call (.Name x p) args [] pos) env) Q h :=
  call_name (e_bi B S N (callWith_any (fun _ _ => ⟨_, .inr (.inl rfl), Looks.of_pure hf⟩) k hpl) hk hx hg hbi)

/-- ints, strs, operators -/
theorem e_int {i : Int} {kd : Nat} {pos : Pos} {Q : Value → Heap → Prop} (k : ∀ u, Q (.int i u) h) : W prog w g A (eval (.Constant (.int i) kd pos) env) Q h := ⟨fun _ => wpAny_Constant_int (.mk (k _))⟩
theorem e_str {x : Str} {kd : Nat} {pos : Pos} {Q : Value → Heap → Prop} (k : ∀ u, Q (.str x u) h) : W prog w g A (eval (.Constant (.str x) kd pos) env) Q h := ⟨fun _ => Constant_str (.mk (k _))⟩
theorem e_bool {b : Bool} {kd : Nat} {pos : Pos} {Q : Value → Heap → Prop} (k : Q (.bool b) h) : W prog w g A (eval (.Constant (.bool b) kd pos) env) Q h := ⟨fun _ => wpAny_Constant_bool (.mk k)⟩
theorem e_bin {op : Operator} {l r : Expr} {pos : Pos} {Q : Value → Heap → Prop} (k : W prog w g A (eval l env) (fun a h₁ => W prog w g A (eval r env) (fun b h₂ => W prog w g A (binaryOp op a b) Q h₂) h₁) h) : W prog w g A (eval (.BinOp l op r pos) env) Q h :=
  ⟨fun n => wpAny_BinOp (k.then fun _ _ _ x => x.then fun _ _ _ x => x.go _)⟩
theorem e_cmp {op : CmpOp} {l r : Expr} {pos : Pos} {Q : Value → Heap → Prop} (k : W prog w g A (eval l env) (fun a h₁ => W prog w g A (eval r env) (fun b h₂ => W prog w g A (compareOp op a b) Q h₂) h₁) h)
    (hm : behindInMarks op r = false := by with_unfolding_all rfl) : W prog w g A (eval (.Compare l [op] [r] pos) env) Q h :=
  ⟨fun n => wpAny_Compare1 (k.then fun _ _ _ x => x.then fun _ _ _ x => x.go _) hm⟩
theorem o_add {a b : Int} {t u : Tok} {Q : Value → Heap → Prop} (k : ∀ v, Q (.int (a + b) v) h) : W prog w g A (binaryOp .Add (.int a t) (.int b u)) Q h := ⟨fun _ => add_int (.mk (k _))⟩
theorem o_sub {a b : Int} {t u : Tok} {Q : Value → Heap → Prop} (k : ∀ v, Q (.int (a - b) v) h) : W prog w g A (binaryOp .Sub (.int a t) (.int b u)) Q h := ⟨fun _ => sub_int (.mk (k _))⟩
theorem o_mod {a b : Int} {t u : Tok} {Q : Value → Heap → Prop} (hb : 0 < b) (k : ∀ v, Q (.int (a % b) v) h) : W prog w g A (binaryOp .Mod (.int a t) (.int b u)) Q h :=
  ⟨fun _ => mod_int (by omega) (by rw [Int.fmod_eq_emod_of_nonneg _ (by omega)]; exact .mk (k _))⟩
theorem o_mul {a b : Int} {t u : Tok} {Q : Value → Heap → Prop} (ha : a.natAbs < 2 ^ 60) (k : ∀ v, Q (.int (a * b) v) h) : W prog w g A (binaryOp .Mult (.int a t) (.int b u)) Q h :=
  ⟨fun _ => PyProof.Rows.mul_int (.mk (k _)) (IntMulOk.of_left (by
    unfold Builtin.Int.intBits
    split
    · omega
    · rename_i q
      have := (Nat.log2_lt (by simpa using q)).mpr ha
      omega))⟩
theorem o_lt {a b : Int} {t u : Tok} {Q : Value → Heap → Prop} (k : Q (.bool (decide (a < b))) h) : W prog w g A (compareOp .Lt (.int a t) (.int b u)) Q h := ⟨fun _ => lt_int (.mk k)⟩
theorem o_le {a b : Int} {t u : Tok} {Q : Value → Heap → Prop} (k : Q (.bool (decide (a ≤ b))) h) : W prog w g A (compareOp .LtE (.int a t) (.int b u)) Q h := ⟨fun _ => PySem.P.le_int (.mk k)⟩
theorem o_gt {a b : Int} {t u : Tok} {Q : Value → Heap → Prop} (k : Q (.bool (decide (b < a))) h) : W prog w g A (compareOp .Gt (.int a t) (.int b u)) Q h := ⟨fun _ => gt_int (.mk k)⟩
theorem o_eq {a b : Int} {t u : Tok} {Q : Value → Heap → Prop} (k : Q (.bool (a == b)) h) : W prog w g A (compareOp .Eq (.int a t) (.int b u)) Q h := ⟨fun _ => eq_int (.mk k)⟩
theorem o_ne {a b : Int} {t u : Tok} {Q : Value → Heap → Prop} (k : Q (.bool (a != b)) h) : W prog w g A (compareOp .NotEq (.int a t) (.int b u)) Q h := ⟨fun _ => ne_int (.mk k)⟩
theorem c_len_list {a : Addr} {vs : List Value} {Q : Value → Heap → Prop} (hl : LstAt h a vs) (hz : vs.length ≤ 10000) (k : ∀ u, Q (.int vs.length u) h) : W prog w g A (call (.builtin "len") [.ref a]) Q h :=
  ⟨fun _ => call_len_list hl.isList (by rw [List.size_toArray]; omega) (by rw [List.size_toArray]; exact .mk (k _))⟩
theorem c_len_tup {a : Addr} {vs : List Value} {Q : Value → Heap → Prop} (hl : TupAt h a vs) (hz : vs.length ≤ 10000) (k : ∀ u, Q (.int vs.length u) h) : W prog w g A (call (.builtin "len") [.ref a]) Q h :=
  ⟨fun _ => PyProof.Rows.len_tuple hl.isTuple (by rw [List.size_toArray]; omega) (by rw [List.size_toArray]; exact .mk (k _))⟩
theorem c_int {i : Int} {u : Tok} {Q : Value → Heap → Prop} (k : Q (.int i u) h) : W prog w g A (call (.type "int") [.int i u]) Q h := ⟨fun _ => call_int_int (.mk k)⟩

/-- subscripts -/
theorem e_sub {value slice : Expr} {pos : Pos} {Q : Value → Heap → Prop} (k : W prog w g A (eval value env) (fun o h₁ => W prog w g A (eval slice env) (fun i h₂ => W prog w g A (subscriptTail value slice o i) Q h₂) h₁) h) :
    W prog w g A (eval (.Subscript value slice pos) env) Q h := ⟨fun n => Subscript_ (k.then fun _ _ _ x => x.then fun _ _ _ x => x.go _)⟩
theorem t_list {value slice : Expr} {a : Addr} {vs : List Value} {i : Int} {u : Tok} (x : Value) {Q : Value → Heap → Prop} (hl : LstAt h a vs) (h0 : 0 ≤ i) (hhi : i < 2 ^ 63) (hx : vs[i.toNat]? = some x) (k : Q x h)
    (hs : subscripted slice false (.ref a) (.int i u) = operate [.ref a, .int i u] (getItem (.ref a) (.int i u)) := by with_unfolding_all rfl) :
    W prog w g A (subscriptTail value slice (.ref a) (.int i u)) Q h :=
  ⟨fun n => tail_any (s := sh g h n) (LstAt.isList hl).typeIs slot_list_getitem.lookup (wpAny_getItem_list hl.isList h0 hhi (by simpa using hx) (.mk k)) hs⟩
theorem t_list_neg {value slice : Expr} {a : Addr} {vs : List Value} {i : Int} {u : Tok} (x : Value) {Q : Value → Heap → Prop} (hl : LstAt h a vs) (h0 : i < 0) (h1 : -(vs.length : Int) ≤ i) (hfit : -(2 ^ 63) ≤ i)
    (hx : vs[(i + vs.length).toNat]? = some x) (k : Q x h)
    (hs : subscripted slice false (.ref a) (.int i u) = operate [.ref a, .int i u] (getItem (.ref a) (.int i u)) := by with_unfolding_all rfl) :
    W prog w g A (subscriptTail value slice (.ref a) (.int i u)) Q h :=
  ⟨fun n => tail_any (s := sh g h n) (LstAt.isList hl).typeIs slot_list_getitem.lookup (wpAny_getItem_list_neg hl.isList h0 (by simpa using h1) hfit (by simpa using hx) (.mk k)) hs⟩
theorem t_tup {value slice : Expr} {a : Addr} {vs : List Value} {i : Int} {u : Tok} (x : Value) {Q : Value → Heap → Prop} (hl : TupAt h a vs) (h0 : 0 ≤ i) (hhi : i < 2 ^ 63) (hx : vs[i.toNat]? = some x) (k : Q x h)
    (hs : subscripted slice false (.ref a) (.int i u) = operate [.ref a, .int i u] (getItem (.ref a) (.int i u)) := by with_unfolding_all rfl) :
    W prog w g A (subscriptTail value slice (.ref a) (.int i u)) Q h := by
  have hlt : i.toNat < vs.length := (List.getElem?_eq_some_iff.mp hx).1
  refine ⟨fun n => item_tupleT (s := sh g h n) (j := i.toNat) (TupAt.isTuple hl) (by omega) hhi ?_ hx (.mk k) hs⟩
  unfold seqIndex?
  simp only [show ¬ i < 0 by omega, if_false]
  rw [if_pos (by simp; omega)]
theorem t_dict {K : Type} [DecidableEq K] {knd : KeyKind prog w K} {value slice : Expr} {a : Addr} {key : Value} {kk : K} {kvs : List (K × Value)} (x : Value) {Q : Value → Heap → Prop} (hkey : knd.is kk key = true) (hm : h.DictOf knd a kvs)
    (hx : valueAt kvs kk = some x) (k : Q x h)
    (hs : subscripted slice false (.ref a) key = operate [.ref a, key] (getItem (.ref a) key) := by with_unfolding_all rfl) :
    W prog w g A (subscriptTail value slice (.ref a) key) Q h :=
  ⟨fun n => tail_any (s := sh g h n) (Heap.MapOf.typeIs hm.mapOf) slot_dict_getitem.lookup (wpAny_getItem_of hkey hm.mapOf hx (.mk k)) hs⟩

/-- displays -/
theorem e_tup {elts : List Expr} {kd : Nat} {pos : Pos} {Q : Value → Heap → Prop}
    (k : W prog w g A (spliced (backTo pos (starEach elts env))) (fun vs h₁ => vs.length ≤ 10000 ∧ ∀ h₂ a, Ext None h₁ h₂ → h₁.get? a = none → TupAt h₂ a vs → Q (.ref a) h₂) h) :
    W prog w g A (eval (.Tuple elts kd pos) env) Q h :=
  ⟨fun n => wpAny_Tuple (k.then fun vs h₁ m x => ⟨by rw [sizeLine_eq]; omega, .mk (x.2 _ _ Ext.push (size_none _) ⟨0, Heap.get?_push_size _ rfl⟩)⟩)⟩
theorem e_lst {elts : List Expr} {pos : Pos} {Q : Value → Heap → Prop}
    (k : W prog w g A (spliced (backTo pos (starEach elts env))) (fun vs h₁ => vs.length ≤ 10000 ∧ ∀ h₂ a, Ext None h₁ h₂ → h₁.get? a = none → LstAt h₂ a vs → Q (.ref a) h₂) h) :
    W prog w g A (eval (.List elts pos) env) Q h :=
  ⟨fun n => wpAny_List (k.then fun vs h₁ m x => ⟨by rw [sizeLine_eq]; omega, .mk (x.2 _ _ Ext.push (size_none _) ⟨0, Heap.get?_push_size _ rfl⟩)⟩)⟩
theorem unp {t : Addr} {vs : List Value} {n : Nat} {Q : List Value → Heap → Prop} (hh : A.handled = none) (ht : TupAt h t vs) (hn : n = vs.length) (k : ∀ h₁, Ext None h h₁ → Q vs h₁) :
    W prog w g A (unpackItems (.ref t) n none) Q h := by
  subst hn
  refine ⟨fun n => ?_⟩
  have q := wpAny_unpackItems_tuple (prog := prog) (w := w) (s := sh g h n) (E := fun _ _ => False) (Q := Post g Q) hh (TupAt.isTuple ht) (fun h' he => by
    have := k h' (Ext.grown (fun b o e => he b o (fun q => by rw [q] at e; exact absurd e (by rw [show (sh g h n).heap = h from rfl, size_none]; exact nofun)) e))
    exact .mk (by simpa using this))
  simpa using q
theorem aio_nil {Q : Unit → Heap → Prop} (k : Q () h) : W prog w g A (assignInOrder [] []) Q h := ⟨fun _ => wpAny_assignInOrder_none (.mk k)⟩
theorem aio_cons {t : Value → Sem Unit} {ts : List (Value → Sem Unit)} {x : Value} {xs : List Value} {Q : Unit → Heap → Prop} (k : W prog w g A (t x) (fun _ h₁ => W prog w g A (assignInOrder ts xs) Q h₁) h) :
    W prog w g A (assignInOrder (t :: ts) (x :: xs)) Q h := ⟨fun _ => wpAny_assignInOrder_more (k.then fun _ _ _ x => x.go _)⟩
theorem bind_local {x : Str} {m : Str → Option Value} {v : Value} {Q : Unit → Heap → Prop} (hn : h.Ns env.locals m)
    (k : ∀ h₁, Ext (· = env.locals) h h₁ → h₁.Ns env.locals (fun y => if y = x then some v else m y) → Q () h₁)
    (hk : env.scope.kind = .function := by rfl) (hl : env.kindOf x = some .local := by rfl) : W prog w g A (bindName env x v) Q h :=
  ⟨fun _ => wpAny_bindName ((st_local hn k hk hl).then fun _ _ _ x => .mk x)⟩
theorem asg_local {x : Str} {pos : Pos} {m : Str → Option Value} {v : Value} {Q : Unit → Heap → Prop} (hn : h.Ns env.locals m)
    (k : ∀ h₁, Ext (· = env.locals) h h₁ → h₁.Ns env.locals (fun y => if y = x then some v else m y) → Q () h₁)
    (hk : env.scope.kind = .function := by rfl) (hl : env.kindOf x = some .local := by rfl) : W prog w g A (assign (.Name x pos) env v) Q h :=
  ⟨fun _ => wpAny_assign_Name ((st_local hn k hk hl).then fun _ _ _ x => .mk x)⟩
/-- a, b = .. of two local names (the model stores the later first) -/
theorem as_pair {x y : Str} {px py : Pos} {kd : Nat} {tpos pos : Pos} {value : Expr} {Q : Flow → Heap → Prop} (hh : A.handled = none)
    (k : W prog w g A (eval value env) (fun v h₁ => ∃ t a b m, v = .ref t ∧ TupAt h₁ t [a, b] ∧ h₁.Ns env.locals m ∧
      ∀ h₂, Ext (· = env.locals) h₁ h₂ → h₂.Ns env.locals (fun z => if z = x then some a else if z = y then some b else m z) → Q .next h₂) h)
    (hs : swapsWithSole [.Tuple [.Name x px, .Name y py] kd tpos] value pos.line env = pure false := by rfl)
    (hw : swappedStores [.Tuple [.Name x px, .Name y py] kd tpos] value env = pure (some [x, y]) := by rfl)
    (hk : env.scope.kind = .function := by rfl) (hx : env.kindOf x = some .local := by rfl) (hy : env.kindOf y = some .local := by rfl) :
    W prog w g A (exec (.Assign [.Tuple [.Name x px, .Name y py] kd tpos] value pos) env) Q h := by
  refine ⟨fun n => Assign_Tuple_swapped (names := [x, y]) (k.then fun v h₁ m h₁' => ?_) hs hw⟩
  obtain ⟨t, a, b, mm, rfl, ht, hn, hQ⟩ := h₁'
  refine (unp (Q := fun items h₂ => W prog w g A (assignInOrder ([x, y].reverse.map fun n => bindName env n) items.reverse) (fun _ => Q .next) h₂) hh ht rfl fun h₂ e₂ => ?_).then fun _ _ _ x => x.then fun _ _ _ x => .mk x
  exact aio_cons (bind_local (ns_to hn e₂) (fun h₃ e₃ hn₃ => aio_cons (bind_local hn₃ (fun h₄ e₄ hn₄ => aio_nil (hQ h₄ (e₂.of.trans (e₃.trans e₄)) hn₄)) hk hx)) hk hy)

/-- facts of dicts -/
theorem dict_to {K : Type} [DecidableEq K] {knd : KeyKind prog w K} {Y : Addr → Prop} {h₁ : Heap} {a : Addr} {kvs : List (K × Value)} (x : h.DictOf knd a kvs) (e : Ext Y h h₁) (k : ¬ Y a := by exact id) : h₁.DictOf knd a kvs :=
  x.at fun _ q => e.keep _ _ k q
theorem dict_ne_lst {K : Type} [DecidableEq K] {knd : KeyKind prog w K} {a b : Addr} {kvs : List (K × Value)} {vs : List Value} (x : h.DictOf knd a kvs) (y : LstAt h b vs) : b ≠ a := by
  obtain ⟨o, es, ep, e, _, hd, _⟩ := x
  obtain ⟨n, e'⟩ := y
  rintro rfl
  rw [e] at e'; cases e'; cases hd
theorem dict_some {K : Type} [DecidableEq K] {knd : KeyKind prog w K} {a : Addr} {kvs : List (K × Value)} (x : h.DictOf knd a kvs) : h.get? a ≠ none := by
  obtain ⟨o, es, ep, e, _⟩ := x
  rw [e]; exact nofun
theorem set_dict {K : Type} [DecidableEq K] {knd : KeyKind prog w K} {d : Addr} {kvs : List (K × Value)} {kk : K} {key v : Value} {Q : Unit → Heap → Prop} (hkey : knd.is kk key = true) (hm : h.DictOf knd d kvs) (hz : kvs.length ≤ 10000)
    (k : ∀ h₁, Ext (· = d) h h₁ → h₁.DictOf knd d (stored kvs kk v) → Q () h₁) : W prog w g A (setItem (.ref d) key v) Q h := by
  refine ⟨fun n => wpAny_setItem_pairs (s := sh g h n) (hsz := by rw [sizeLine_eq]; omega) hkey hm fun h' hm' hs => .mk (k _ ?_ hm')⟩
  obtain ⟨o, es, ep, e, _, hd, _⟩ := id hm
  obtain ⟨o', _, _, e', _⟩ := id hm'
  exact Ext.upd hs e (fun vs n q => by rw [q] at hd; cases hd) e'
end
end Mine

end

section
open PySem PySem.W PySem.Calls PyProof.Rows
namespace Mine
variable {w : World}
theorem n_len : BiN w "len" (.builtin "len") := ⟨rfl, rfl, by decide, by decide⟩
theorem n_int : BiN w "int" (.type "int") := ⟨rfl, rfl, by decide, by decide⟩
theorem n_list : BiN w "list" (.type "list") := ⟨rfl, rfl, by decide, by decide⟩
theorem n_tuple : BiN w "tuple" (.type "tuple") := ⟨rfl, rfl, by decide, by decide⟩
theorem n_range : BiN w "range" (.type "range") := ⟨rfl, rfl, by decide, by decide⟩
theorem n_zip : BiN w "zip" (.type "zip") := ⟨rfl, rfl, by decide, by decide⟩
theorem n_enumerate : BiN w "enumerate" (.type "enumerate") := ⟨rfl, rfl, by decide, by decide⟩
theorem n_sum : BiN w "sum" (.builtin "sum") := ⟨rfl, rfl, by decide, by decide⟩
theorem n_max : BiN w "max" (.builtin "max") := ⟨rfl, rfl, by decide, by decide⟩
theorem n_sorted : BiN w "sorted" (.builtin "sorted") := ⟨rfl, rfl, by decide, by decide⟩
theorem n_is_op : GlN w "is_op" (.ref 67) := ⟨rfl, rfl, by decide⟩
theorem n_parts : GlN w "parts" (.ref 72) := ⟨rfl, rfl, by decide⟩
theorem n_key_of : GlN w "key_of" (.ref 77) := ⟨rfl, rfl, by decide⟩
theorem n_Bank : GlN w "Bank" (.ref 179) := ⟨rfl, rfl, by decide⟩
theorem n_leaves : GlN w "_law_leaves" (.ref 190) := ⟨rfl, rfl, by decide⟩
theorem n_draw : GlN w "_law_draw" (.ref 197) := ⟨rfl, rfl, by decide⟩
theorem n_ops : GlN w "_law_ops" (.ref 204) := ⟨rfl, rfl, by decide⟩
theorem n_all : GlN w "_law_all" (.ref 209) := ⟨rfl, rfl, by decide⟩
theorem n_row : GlN w "_law_row" (.ref 216) := ⟨rfl, rfl, by decide⟩
theorem n_ahead : GlN w "_law_is_ahead" (.ref 223) := ⟨rfl, rfl, by decide⟩
theorem n_terms : GlN w "_law_terms" (.ref 230) := ⟨rfl, rfl, by decide⟩
end Mine

end

section
open PySem PySem.W PySem.Calls PyProof.Rows
namespace Mine

noncomputable def AllInt (vs : List Value) : Prop := ∀ v ∈ vs, ∃ n t, v = .int n t

/-- the feed: a dict of the cells' list and the spot -/
structure FeedAt (prog : Program) (w : World) (h : Heap) (f l : Addr) (k : Nat) : Prop where
  dict : ∃ tk, h.DictOf (strKind prog w) f [(("cells" : Str), .ref l), (("spot" : Str), .int k tk)]
  list : ∃ vs, LstAt h l vs ∧ AllInt vs ∧ vs.length ≤ 40
theorem FeedAt.to {prog : Program} {w : World} {Y : Addr → Prop} {h h₁ : Heap} {f l : Addr} {k : Nat} (x : FeedAt prog w h f l k) (e : Ext Y h h₁) (q : ¬ Y f := by exact id) (ql : ¬ Y l := by exact id) : FeedAt prog w h₁ f l k :=
  ⟨let ⟨tk, d⟩ := x.dict; ⟨tk, dict_to d e q⟩, let ⟨vs, p, r⟩ := x.list; ⟨vs, p.to e ql, r⟩⟩
theorem FeedAt.ne {prog : Program} {w : World} {h : Heap} {f l : Addr} {k : Nat} (x : FeedAt prog w h f l k) {b : Addr} (hb : h.get? b = none) : f ≠ b ∧ l ≠ b :=
  ⟨let ⟨_, d⟩ := x.dict; ne_new (dict_some d) hb, let ⟨_, p, _⟩ := x.list; ne_new p.some hb⟩

section
variable {prog : Program} {w : World} {g : Shared} {hb : Heap} {A : Around} {h : Heap}

theorem draw_ok {f l : Addr} {i : Nat} {n : Int} {tk : Tok} {Q : Value → Heap → Prop} (B : Base w hb) (S : St hb h) (R : Rm A 1) (hf : FeedAt prog w h f l i) (hbf : hb.get? f = none) (hk : i ≤ 1000) (hn : 1 ≤ n) (hn' : n ≤ 1000)
    (k : ∀ h₁ r t, Ext (· = f) h h₁ → FeedAt prog w h₁ f l (i + 1) → 0 ≤ r → r < n → Q (.int r t) h₁) :
    W prog w g A (call (.ref 197) [.ref f, .int n tk]) Q h := by
  refine call_def (k := 0) [("feed", .ref f), ("wide", .int n tk)] B S R rfl rfl rfl rfl (by decide) rfl rfl rfl fun h₁ L e₁ S₁ R₁ hL hn₁ => ?_
  have hf₁ := hf.to e₁
  obtain ⟨tk₁, hd₁⟩ := hf₁.dict
  obtain ⟨vs, hl₁, hvs, hlen⟩ := hf₁.list
  obtain ⟨hfL, hlL⟩ := hf.ne hL
  -- cells, spot = (feed['cells'], feed['spot'])
  refine W.hideL ?_
  intro K
  refine x_cons ?_
  refine W.hideL ?_
  intro K
  refine as_pair R₁.hh <| e_tup <| i_cons <| e_sub <| e_local hn₁ rfl <| e_str fun _ => t_dict (.ref l) (strKind_is _ _ _ _) hd₁ rfl ?_
  refine i_cons <| e_sub <| e_local hn₁ rfl <| e_str fun _ => t_dict (.int i tk₁) (strKind_is _ _ _ _) hd₁ rfl <| i_nil ⟨Nat.le_of_ble_eq_true rfl, fun h₂ a e₁₂ ha ht => ?_⟩
  refine ⟨a, _, _, _, rfl, ht, ns_to hn₁ e₁₂, fun h₃ e₃ hn₃ => ?_⟩
  have e₁₃ : Ext (· = L) h₁ h₃ := e₁₂.of.trans e₃
  have hd₃ := dict_to hd₁ e₁₃ hfL
  have hl₃ := hl₁.to e₁₃ hlL
  -- feed['spot'] = spot + 1
  refine W.hideL ?_
  intro K
  refine x_cons ?_
  refine W.hideL ?_
  intro K
  refine x_setitem <| e_bin <| e_local hn₃ rfl <| e_int fun _ => o_add fun t₄ => e_local hn₃ rfl <| e_str fun _ => set_dict (strKind_is _ _ _ _) hd₃ (Nat.le_of_ble_eq_true rfl) fun h₄ e₄ hd₄ => ?_
  replace hd₄ : h₄.DictOf (strKind prog w) f [(("cells" : Str), .ref l), (("spot" : Str), .int ((i + 1 : Nat) : Int) t₄)] := hd₄
  have hn₄ := ns_to hn₃ e₄ hfL.symm
  have hl₄ := hl₃.to e₄ (dict_ne_lst hd₁ hl₁)
  have e₁₄ : Ext (fun b => b = f ∨ b = L) h h₄ := ((e₁.of.trans (e₁₃.mono fun _ => .inr)).trans (e₄.mono fun _ => .inl))
  have S₄ : St hb h₄ := S.to e₁₄ (by
    rintro b (rfl | rfl)
    · exact hbf
    · exact S.none hL)
  have e₀₄ : Ext (· = f) h h₄ := Ext.trans' (Y := (· = f)) (Ext.refl) e₁₄ fun b hb' => hb'.imp id (by rintro rfl; exact hL)
  have hfeed : FeedAt prog w h₄ f l (i + 1) := ⟨⟨_, hd₄⟩, vs, hl₄, hvs, hlen⟩
  -- if spot < len(cells): return int(cells[spot]) % wide
  refine W.hideL ?_
  intro K
  refine x_cons ?_
  refine W.hideL ?_
  intro K
  refine x_if <| b_cmp <| e_local hn₄ rfl <| c_bi B S₄ n_len <| i_cons <| e_local hn₄ rfl <| i_nil ⟨S₄, c_len_list hl₄ (by omega) fun _ => o_lt ⟨_, rfl, ?_⟩⟩
  by_cases hlt : (i : Int) < (vs.length : Int)
  · rw [decide_eq_true hlt, if_pos rfl]
    have hkl : i < vs.length := by simpa using hlt
    obtain ⟨c, tc, hc⟩ := hvs _ (List.getElem_mem hkl)
    have hx : vs[(i : Int).toNat]? = some (.int c tc) := by rw [Int.toNat_natCast, List.getElem?_eq_getElem hkl, hc]
    refine W.hideL ?_
    intro K
    refine x_cons ?_
    refine W.hideL ?_
    intro K
    refine x_ret <| e_bin <| c_bi B S₄ n_int <| i_cons <| e_sub <| e_local hn₄ rfl <| e_local hn₄ rfl <| t_list _ hl₄ (by omega) (by omega) hx <| i_nil ⟨S₄, c_int <| e_local hn₄ rfl <| o_mod (by omega) fun _ => ?_⟩
    exact k _ _ _ e₀₄ hfeed (Int.emod_nonneg _ (by omega)) (Int.emod_lt_of_pos _ (by omega))
  · rw [decide_eq_false hlt, if_neg (by decide)]
    refine x_nil ?_
    -- return (3 * spot * spot + 7 * spot + 5 * len(cells)) % 97 % wide
    refine W.hideL ?_
    intro K
    refine x_cons ?_
    refine W.hideL ?_
    intro K
    refine x_ret <| e_bin <| e_bin <| e_bin <| e_bin <| e_bin <| e_bin <| e_int fun _ => e_local hn₄ rfl <| o_mul (by decide) fun _ => e_local hn₄ rfl <| o_mul (by omega) fun _ => ?_
    refine e_bin <| e_int fun _ => e_local hn₄ rfl <| o_mul (by decide) fun _ => o_add fun _ => ?_
    refine e_bin <| e_int fun _ => c_bi B S₄ n_len <| i_cons <| e_local hn₄ rfl <| i_nil ⟨S₄, c_len_list hl₄ (by omega) fun _ => o_mul (by decide) fun _ => o_add fun _ => ?_⟩
    refine e_int fun _ => o_mod (by decide) fun _ => e_local hn₄ rfl <| o_mod (by omega) fun _ => ?_
    exact k _ _ _ e₀₄ hfeed (Int.emod_nonneg _ (by omega)) (Int.emod_lt_of_pos _ (by omega))
end
end Mine

end

section
open PySem PySem.W PySem.Calls PyProof.Rows
namespace Mine
section
variable {prog : Program} {w : World} {g : Shared} {hb : Heap} {A : Around} {h : Heap} {env : Env}

/-- a call of a builtin (by callWith) -/
theorem callWith_bi {id : String} {first : List Value} {args : List Expr} {pos : Pos} {Q : Value → Heap → Prop}
    (k : W prog w g A (spliced (backTo pos (starEach args env))) (fun vs h₁ => W prog w g A (call (.builtin id) (first ++ vs)) Q h₁) h)
    (hpl : (backTo pos (starEach args env)).any (·.1) = false) : W prog w g A (callWith pos (.builtin id) first (backTo pos (starEach args env)) []) Q h :=
  callWith_any (hb := { objs := #[] }) (fun _ _ => ⟨_, .inr (.inl rfl), Looks.of_pure rfl⟩) (k.mono fun _ _ x => ⟨fun b o e => by simp [Heap.get?] at e, x⟩) hpl

theorem LstAt.ty {n : Nat} {a : Addr} {vs : List Value} (x : LstAt h a vs) : (sh g h n).TypeIs (.ref a) "list" := x.isList.typeIs
theorem TupAt.ty {n : Nat} {a : Addr} {vs : List Value} (x : TupAt h a vs) : (sh g h n).TypeIs (.ref a) "tuple" := x.isTuple.typeIs

/-- a method of a list -/
theorem m_list {name : Str} {id : String} {o : Expr} {apos pos : Pos} {args : List Expr} {Q : Value → Heap → Prop} (slot : Slot "list" name id) (ty : typeOf (.builtin id) = pure (.type "method_descriptor"))
    (k : W prog w g A (eval o env) (fun ov h₁ => ∃ a vs, ov = .ref a ∧ LstAt h₁ a vs ∧ W prog w g A (spliced (backTo pos (starEach args env))) (fun ws h₂ => W prog w g A (call (.builtin id) ([.ref a] ++ ws)) Q h₂) h₁) h)
    (hbase : attributeBase o name env (eval o env) = eval o env := by rfl)
    (hfew : ((backTo pos (starEach args env)).all (fun x => !x.1) && (backToKw pos (keywordEach [] env)).all (fun x => x.1.isSome)
      && decide (args.length + ([] : List Keyword).length + (if ([] : List Keyword).isEmpty then 0 else 1) < 30)) = true := by rfl)
    (hline : (apos.endLine == pos.line) = true := by rfl) (hpl : (backTo pos (starEach args env)).any (·.1) = false := by rfl) :
    W prog w g A (eval (.Call (.Attribute o name apos) args [] pos) env) Q h := by
  refine ⟨fun n => wpAny_Call_method_late hbase hfew hline rfl (k.then fun ov h₁ m x => ?_)⟩
  obtain ⟨a, vs, rfl, hl, x⟩ := x
  exact ⟨"list", id, F.plainAttrs_list, slot, ty, hl.ty, fun b e => by cases e; obtain ⟨n, q⟩ := hl; exact ⟨_, q, rfl⟩, (callWith_bi x hpl).go _⟩

theorem lst_set {a : Addr} {vs ws : List Value} {n : Nat} {f : Array Value → Array Value} (ho : h.get? a = some (lstO vs n)) (e : f vs.toArray = ws.toArray) :
    Ext (· = a) h (h.update a (Obj.mapSeq f)) ∧ LstAt (h.update a (Obj.mapSeq f)) a ws := by
  have q : (h.update a (Obj.mapSeq f)).get? a = some (Obj.mapSeq f (lstO vs n)) := Heap.get?_update_self _ ho rfl
  refine ⟨Ext.upd (Heap.SameBut.update ..) ho (fun us m => by intro q; have := congrArg Obj.cls q; simp at this) q, ?_⟩
  refine ⟨if ws.length = vs.length then n else n + 1, q.trans ?_⟩
  simp only [Obj.mapSeq, e]
  simp

theorem c_append {a : Addr} {vs : List Value} {x : Value} {Q : Value → Heap → Prop} (hl : LstAt h a vs) (hz : vs.length ≤ 10000) (k : ∀ h₁, Ext (· = a) h h₁ → LstAt h₁ a (vs ++ [x]) → Q .none h₁) :
    W prog w g A (call (.builtin "list.append") [.ref a, x]) Q h := by
  obtain ⟨m, ho⟩ := hl
  refine ⟨fun n => wpAny_call_entry slot_list_append (LstAt.ty ⟨m, ho⟩) entry_list_append ?_ (args_list_append _ _)⟩
  show wpAny _ _ (updateSeq a (·.push x) >>= fun _ => ret .none) _ _ _
  refine wpAny_bind (wpAny_updateSeq (s := sh g h n) ho rfl (wpAny_pure ⟨.none, rfl, .mk ?_⟩) (by simp [sizeLine_eq]; omega) (by simp [sizeLine_eq]; omega))
  obtain ⟨e, q⟩ := lst_set (f := (·.push x)) (ws := vs ++ [x]) ho (by simp)
  exact k _ e q
theorem c_pop {a : Addr} {vs : List Value} {x : Value} {Q : Value → Heap → Prop} (hl : LstAt h a (vs ++ [x])) (hz : vs.length ≤ 9000) (k : ∀ h₁, Ext (· = a) h h₁ → LstAt h₁ a vs → Q x h₁) :
    W prog w g A (call (.builtin "list.pop") [.ref a]) Q h := by
  obtain ⟨m, ho⟩ := hl
  refine ⟨fun n => call_meets F.slot_list_pop (LstAt.ty ⟨m, ho⟩) F.entry_list_pop (F.args_list_pop_1 _) (MeetsSeq.list_pop_last a _ m x (by simp) (by simp [sizeLine_eq]; omega)) ⟨ho, .mk ?_⟩⟩
  obtain ⟨e, q⟩ := lst_set (f := fun xs => xs.eraseIdxIfInBounds ((vs ++ [x]).toArray.size - 1)) (ws := vs) ho (by
    simp [Array.eraseIdxIfInBounds, List.eraseIdx_append_of_length_le])
  exact k _ e q
theorem c_extend_list {a b : Addr} {vs ws : List Value} {Q : Value → Heap → Prop} (hl : LstAt h a vs) (hm : LstAt h b ws) (hz : vs.length + ws.length ≤ 10000) (k : ∀ h₁, Ext (· = a) h h₁ → LstAt h₁ a (vs ++ ws) → Q .none h₁) :
    W prog w g A (call (.builtin "list.extend") [.ref a, .ref b]) Q h := by
  obtain ⟨m, ho⟩ := hl
  obtain ⟨m', ho'⟩ := hm
  have hlong : Builtin.List.listTooLong (vs.toArray.size + ws.toArray.size) = false := by
    simp only [List.size_toArray]
    unfold Builtin.List.listTooLong
    simp [sizeLine_eq]; omega
  refine ⟨fun n => call_meets F.slot_list_extend (LstAt.ty ⟨m, ho⟩) F.entry_list_extend (F.args_list_extend_2 _ _) (AutoSeq1.list_extend_list_list_0 a _ m b _ m' (by rw [hlong]; simp) (by simp [sizeLine_eq]; omega) (by simp [sizeLine_eq]; omega)) ⟨ho, ho', .mk ?_⟩⟩
  obtain ⟨e, q⟩ := lst_set (f := fun xs => xs ++ ws.toArray) (ws := vs ++ ws) ho (by simp)
  exact k _ e q
theorem c_extend_tup {a b : Addr} {vs ws : List Value} {Q : Value → Heap → Prop} (hl : LstAt h a vs) (hm : TupAt h b ws) (hz : vs.length + ws.length ≤ 10000) (k : ∀ h₁, Ext (· = a) h h₁ → LstAt h₁ a (vs ++ ws) → Q .none h₁) :
    W prog w g A (call (.builtin "list.extend") [.ref a, .ref b]) Q h := by
  obtain ⟨m, ho⟩ := hl
  obtain ⟨m', ho'⟩ := hm
  have hlong : Builtin.List.listTooLong (vs.toArray.size + ws.toArray.size) = false := by
    simp only [List.size_toArray]
    unfold Builtin.List.listTooLong
    simp [sizeLine_eq]; omega
  refine ⟨fun n => call_meets F.slot_list_extend (LstAt.ty ⟨m, ho⟩) F.entry_list_extend (F.args_list_extend_2 _ _) (AutoSeq1.list_extend_list_tuple_0 a _ m b _ m' (by rw [hlong]; simp) (by simp [sizeLine_eq]; omega) (by simp [sizeLine_eq]; omega)) ⟨ho, ho', .mk ?_⟩⟩
  obtain ⟨e, q⟩ := lst_set (f := fun xs => xs ++ ws.toArray) (ws := vs ++ ws) ho (by simp)
  exact k _ e q
end
end Mine

end

section
open PySem PySem.W PySem.Calls PyProof.Rows
namespace Mine

section ends
variable {Y : Addr → Prop} {h0 h h' : Heap} {it a : Addr} {vs : List Value}
theorem Ext.fin (e : Ext Y h0 h) (hn : h0.get? it = Option.none) (k : Heap.ExtBut it h h') : Ext Y h0 h' :=
  have ne : ∀ b o, h0.get? b = some o → b ≠ it := fun b o q r => by rw [r, hn] at q; cases q
  ⟨fun b o q => let ⟨o', q'⟩ := e.live b o q; ⟨o', k _ _ (ne b o q) q'⟩, fun b o n q => k _ _ (ne b o q) (e.keep b o n q), fun b vs n q => k _ _ (ne b _ q) (e.tup b vs n q)⟩
theorem LstAt.fin (x : LstAt h a vs) (k : Heap.ExtBut it h h') (ne : a ≠ it) : LstAt h' a vs := let ⟨n, q⟩ := x; ⟨n, k _ _ ne q⟩
theorem TupAt.fin (x : TupAt h a vs) (k : Heap.ExtBut it h h') (ne : a ≠ it) : TupAt h' a vs := let ⟨n, q⟩ := x; ⟨n, k _ _ ne q⟩
theorem ns_fin {L : Addr} {m : Str → Option Value} (x : h.Ns L m) (k : Heap.ExtBut it h h') (ne : L ≠ it) : h'.Ns L m := x.extBut k ne
theorem St.fin {hb : Heap} (x : St hb h) (k : Heap.ExtBut it h h') (hn : hb.get? it = Option.none) : St hb h' := fun b o q => k _ _ (fun r => by rw [r, hn] at q; cases q) (x b o q)
end ends

section
variable {prog : Program} {w : World} {g : Shared} {hb : Heap} {A : Around} {h : Heap} {env : Env}

/-- an iterator at it, over n items told by P, its state by S -/
structure It (prog : Program) (w : World) (g : Shared) (A : Around) (it : Addr) (n : Nat) (P : Nat → Value → Prop) (S : Nat → Heap → Prop) : Prop where
  item : ∀ i h (Q : Option Value → Heap → Prop), i < n → S i h → (∀ v h', P i v → S (i + 1) h' → Ext (· = it) h h' → Q (some v) h') → W prog w g A (pyNext (.ref it)) Q h
  done : ∀ h (Q : Option Value → Heap → Prop), S n h → (∀ h', Heap.ExtBut it h h' → Q none h') → W prog w g A (pyNext (.ref it)) Q h
  self : ∀ i h (Q : Value → Heap → Prop), S i h → Q (.ref it) h → W prog w g A (pyIter (.ref it)) Q h
  own : ∀ i h tgt v (Q : Unit → Heap → Prop), S i h → Q () h → W prog w g A (letOwnedTupleGo tgt (.ref it) v) Q h

theorem own_plain {tgt : Expr} {it : Addr} {v : Value} {o : Obj} {T : String} {Q : Unit → Heap → Prop} (ho : h.get? it = some o) (hc : o.cls = .type T)
    (hT : ["enumerate", "zip", "dict_itemiterator", "dict_reverseitemiterator", "odict_iterator", "itertools.zip_longest", "itertools.pairwise"].contains T = false) (k : Q () h) :
    W prog w g A (letOwnedTupleGo tgt (.ref it) v) Q h := by
  refine ⟨fun n => ?_⟩
  unfold letOwnedTupleGo
  split
  all_goals (first | exact wpAny_pure (.mk k) | skip)
  all_goals (
    cases v
    all_goals (first | exact wpAny_pure (.mk k) | skip)
    refine wpAny_bind (wpAny_load (s := sh g h n) ho ?_)
    rw [hc]
    split
    · rename_i T' vs e1 e2
      cases e1
      rw [hT]
      exact wpAny_pure (.mk k)
    · exact wpAny_pure (.mk k))

theorem It.list (hh : A.handled = none) {it l : Addr} {vs : List Value} (hne : l ≠ it) :
    It prog w g A it vs.length (fun i v => vs[i]? = some v) (fun i h => h.IsListIter it l i ∧ LstAt h l vs) where
  item := fun i h Q hi hs k => ⟨fun n => wpAny_pyNext_list_item (s := sh g h n) (x := vs[i]) hs.1 (LstAt.isList hs.2) (by simp [hi]) fun h' hit' hb => .mk (by
    obtain ⟨o, ho, hc, _⟩ := hs.1
    obtain ⟨o', ho', _⟩ := id hit'
    have e : Ext (· = it) h h' := Ext.upd hb ho (fun us m q => by rw [q] at hc; simp at hc) ho'
    exact k _ _ (by simp [hi]) ⟨hit', hs.2.to e hne⟩ e)⟩
  done := fun h Q hs k => ⟨fun n => wpAny_pyNext_list_end (s := sh g h n) hh hs.1 (LstAt.isList hs.2) (by simp) fun h' q => .mk (k h' q)⟩
  self := fun i h Q hs k => ⟨fun n => wpAny_pyIter_listiter (s := sh g h n) hs.1 (.mk k)⟩
  own := fun i h tgt v Q hs k => let ⟨⟨o, ho, hc, _⟩, _⟩ := hs; own_plain ho hc (by decide) k

theorem It.tuple (hh : A.handled = none) {it t : Addr} {vs : List Value} :
    It prog w g A it vs.length (fun i v => vs[i]? = some v) (fun i h => h.IsTupleIter it t i ∧ TupAt h t vs) where
  item := fun i h Q hi hs k => ⟨fun n => wpAny_pyNext_tuple_item (s := sh g h n) (x := vs[i]) hs.1 (TupAt.isTuple hs.2) (by simp [hi]) fun h' hit' hb => .mk (by
    obtain ⟨o, ho, hc, _⟩ := hs.1
    obtain ⟨o', ho', _⟩ := id hit'
    have e : Ext (· = it) h h' := Ext.upd hb ho (fun us m q => by rw [q] at hc; simp at hc) ho'
    exact k _ _ (by simp [hi]) ⟨hit', hs.2.to e⟩ e)⟩
  done := fun h Q hs k => ⟨fun n => wpAny_pyNext_tuple_end (s := sh g h n) hh hs.1 (TupAt.isTuple hs.2) (by simp) fun h' q => .mk (k h' q)⟩
  self := fun i h Q hs k => ⟨fun n => wpAny_pyIter_tupleiter (s := sh g h n) hs.1 (.mk k)⟩
  own := fun i h tgt v Q hs k => let ⟨⟨o, ho, hc, _⟩, _⟩ := hs; own_plain ho hc (by decide) k

theorem It.range (hh : A.handled = none) {it : Addr} {a : Int} {n : Nat} :
    It prog w g A it n (fun i v => ∃ t, v = .int (a + i) t) (fun i h => IsRangeIter h it (a + i) (n - i) 1) where
  item := fun i h Q hi hs k => ⟨fun m => wpAny_pyNext_range_item (s := sh g h m) hs (by omega) fun h' hit' hb => .mk (by
    have e : Ext (· = it) h h' := Ext.upd hb hs (fun us m q => by have := congrArg Obj.cls q; simp at this) hit'
    refine k _ _ ⟨_, rfl⟩ ?_ e
    have e1 : a + (i : Int) + 1 = a + ((i + 1 : Nat) : Int) := by omega
    have e2 : (n : Int) - (i : Int) - 1 = (n : Int) - ((i + 1 : Nat) : Int) := by omega
    rw [e1, e2] at hit'
    exact hit')⟩
  done := fun h Q hs k => ⟨fun m => wpAny_pyNext_range_end (s := sh g h m) hh hs (by omega) fun h' q => .mk (k h' q)⟩
  self := fun i h Q hs k => ⟨fun m => wpAny_pyIter_rangeiter (s := sh g h m) hs (.mk k)⟩
  own := fun i h tgt v Q hs k => own_plain hs rfl (by decide) k

theorem It.str (hh : A.handled = none) {it : Addr} {x : Str} {t : Tok} :
    It prog w g A it x.cps.size (fun i v => ∃ c u, x.cps[i]? = some c ∧ v = .str ⟨#[c]⟩ u) (fun i h => h.IsStrIter it "str_ascii_iterator" x t i) where
  item := fun i h Q hi hs k => ⟨fun m => wpAny_pyNext_ascii_item (s := sh g h m) (c := x.cps[i]) hs (by simp [hi]) fun h' hit' hb => .mk (by
    obtain ⟨o, ho, hc, _⟩ := hs
    obtain ⟨o', ho', _⟩ := id hit'
    have e : Ext (· = it) h h' := Ext.upd hb ho (fun us m q => by rw [q] at hc; simp at hc) ho'
    exact k _ _ ⟨_, _, by simp [hi], rfl⟩ hit' e)⟩
  done := fun h Q hs k => ⟨fun m => wpAny_pyNext_ascii_end (s := sh g h m) hh hs (by simp) fun h' q => .mk (k h' q)⟩
  self := fun i h Q hs k => ⟨fun m => wpAny_pyIter_striter_ascii (s := sh g h m) hs (.mk k)⟩
  own := fun i h tgt v Q hs k => let ⟨o, ho, hc, _⟩ := hs; own_plain ho hc (by decide) k

/-- iter() of a list, a tuple, a range, a str -/
theorem iter_list {l : Addr} {vs : List Value} {Q : Value → Heap → Prop} (hl : LstAt h l vs) (k : ∀ h₁ it, Ext None h h₁ → h.get? it = none → l ≠ it → h₁.IsListIter it l 0 ∧ LstAt h₁ l vs → Q (.ref it) h₁) :
    W prog w g A (pyIter (.ref l)) Q h :=
  ⟨fun n => wpAny_pyIter_list (s := sh g h n) (LstAt.isList hl) (.mk (k _ _ Ext.push (size_none _) (ne_new hl.some (size_none _)) ⟨⟨_, Heap.get?_push_size _ rfl, rfl, rfl⟩, hl.to (Ext.push (Y := None))⟩))⟩
theorem iter_tuple {l : Addr} {vs : List Value} {Q : Value → Heap → Prop} (hl : TupAt h l vs) (k : ∀ h₁ it, Ext None h h₁ → h.get? it = none → h₁.IsTupleIter it l 0 ∧ TupAt h₁ l vs → Q (.ref it) h₁) :
    W prog w g A (pyIter (.ref l)) Q h :=
  ⟨fun n => wpAny_pyIter_tuple (s := sh g h n) (TupAt.isTuple hl) (.mk (k _ _ Ext.push (size_none _) ⟨⟨_, Heap.get?_push_size _ rfl, rfl, rfl⟩, hl.to (Ext.push (Y := None))⟩))⟩
theorem iter_str {x : Str} {t : Tok} {Q : Value → Heap → Prop} (hx : x.cps.all (· < 128) = true) (k : ∀ h₁ it, Ext None h h₁ → h.get? it = none → h₁.IsStrIter it "str_ascii_iterator" x t 0 → Q (.ref it) h₁) :
    W prog w g A (pyIter (.str x t)) Q h :=
  ⟨fun n => wpAny_pyIter_ascii (s := sh g h n) hx (.mk (k _ _ Ext.push (size_none _) ⟨_, Heap.get?_push_size _ rfl, rfl, rfl⟩))⟩

/-- for: by what holds at the head of the loop, falling -/
theorem x_for {target iter : Expr} {body : List Stmt} {pos : Pos} {Q : Flow → Heap → Prop}
    (k : W prog w g A (eval iter env) (fun x h₁ => W prog w g A (pyIter x) (fun it h₂ => ∃ (I : Nat → Heap → Prop) (n₀ : Nat), I n₀ h₂ ∧ ∀ n h, I n h →
      W prog w g A (pyNext it) (fun r h₁ => match r with
        | none => Q .next h₁
        | some v => W prog w g A (letOwnedTupleGo target it v) (fun _ h₂ => W prog w g A (assign target env v) (fun _ h₃ => W prog w g A (execs body env) (fun f h₄ => match f with
            | .next | .cont => ∃ m, m < n ∧ I m h₄
            | .brk => Q .next h₄
            | .ret v => Q (.ret v) h₄) h₃) h₂) h₁) h) h₁) h)
    (hs : ∀ x, foldedSetIterable iter env x = pure x := by intro _; rfl) :
    W prog w g A (exec (.For target iter body [] pos) env) Q h := by
  refine ⟨fun n => wpAny_For (k.then fun x h₁ m₁ k₁ => k₁.then fun it h₂ m₂ k₂ => ?_) hs⟩
  obtain ⟨I, n₀, hI, turn⟩ := k₂
  refine codeAny_mono (codeAny_forLoop_any (R := fun r s' => match r with | .ok f => Post g Q f s' | .error _ => False) (fun n s => ∃ h m, s = sh g h m ∧ I n h) (fun n s hs => ?_) n₀ ⟨h₂, m₂, rfl, hI⟩) fun r s' q => by cases r <;> first | exact q | exact q.elim
  obtain ⟨h, m, rfl, hI⟩ := hs
  refine (turn n h hI).then fun r h₁ m₁ q => ?_
  cases r with
  | none => exact wpAny_execs_nil (.mk q)
  | some v =>
    refine q.then fun _ h₂ m₂ q => q.then fun _ h₃ m₃ q => q.then fun f h₄ m₄ q => ?_
    cases f with
    | next => obtain ⟨m, hm, q⟩ := q; exact ⟨m, hm, h₄, m₄, rfl, q⟩
    | cont => obtain ⟨m, hm, q⟩ := q; exact ⟨m, hm, h₄, m₄, rfl, q⟩
    | brk => exact .mk q
    | ret v => exact .mk q
/-- while -/
theorem x_while {test : Expr} {body : List Stmt} {pos : Pos} {Q : Flow → Heap → Prop} (I : Nat → Heap → Prop) (n₀ : Nat) (hI : I n₀ h)
    (turn : ∀ n h, I n h → W prog w g A (isTrue test env (eval test env)) (fun b h₁ => if b = true then W prog w g A (execs body env) (fun f h₂ => match f with
            | .next | .cont => ∃ m, m < n ∧ I m h₂
            | .brk => Q .next h₂
            | .ret v => Q (.ret v) h₂) h₁ else Q .next h₁) h) :
    W prog w g A (exec (.While test body [] pos) env) Q h := by
  refine ⟨fun n => wpAny_While ?_⟩
  refine codeAny_mono (codeAny_whileLoop (R := fun r s' => match r with | .ok f => Post g Q f s' | .error _ => False) (fun n s => ∃ h m, s = sh g h m ∧ I n h) (fun n s hs => ?_) n₀ ⟨h, n, rfl, hI⟩) fun r s' q => by cases r <;> first | exact q | exact q.elim
  obtain ⟨h, m, rfl, hI⟩ := hs
  refine (turn _ h hI).then fun b h₁ m₁ q => ?_
  cases b with
  | false => exact wpAny_execs_nil (.mk q)
  | true =>
    refine W.then q fun f h₂ m₂ q => ?_
    cases f with
    | next => obtain ⟨m, hm, q⟩ := q; exact ⟨m, hm, h₂, m₂, rfl, q⟩
    | cont => obtain ⟨m, hm, q⟩ := q; exact ⟨m, hm, h₂, m₂, rfl, q⟩
    | brk => exact .mk q
    | ret v => exact .mk q

/-- the loop of a list comprehension over one source without tests -/
theorem comp_loop {elt target iter : Expr} {scope : Scope} {pos : Pos} {it : Value} {D : Addr} {cenv : Env} {n : Nat} {R : List Value → Heap → Prop} (I : Nat → List Value → Heap → Prop) (n₀ : Nat) (hI : I n₀ [] h) (hD : LstAt h D [])
    (turn : ∀ n ys h, I n ys h → LstAt h D ys → W prog w g A (pyNext it) (fun r h₁ => match r with
      | none => R ys h₁
      | some v => W prog w g A (letOwnedTupleGo target it v) (fun _ h₂ => W prog w g A (assign target cenv v) (fun _ h₃ => W prog w g A (eval elt cenv) (fun y h₄ =>
          LstAt h₄ D ys ∧ ys.length ≤ 5000 ∧ ∀ h₅, Ext (· = D) h₄ h₅ → LstAt h₅ D (ys ++ [y]) → ∃ m, m < n ∧ I m (ys ++ [y]) h₅) h₃) h₂) h₁) h) :
    codeAny (model prog w) A (.compLoop (.ListComp elt [⟨target, iter, [], 0⟩] scope pos) 0 it (.ref D) cenv) (fun r s' => match r with | .ok _ => ∃ ys, Post g (fun _ h => R ys h) () s' | .error _ => False) (sh g h n) := by
  refine codeAny_loop rfl (fun n s => ∃ ys h m, s = sh g h m ∧ LstAt h D ys ∧ I n ys h) (fun n s hs => ?_) n₀ ⟨[], h, n, rfl, hD, hI⟩
  obtain ⟨ys, h, m, rfl, hD, hI⟩ := hs
  show wpAny _ _ ((compTurn (.ListComp elt [⟨target, iter, [], 0⟩] scope pos) 0 it (.ref D) cenv).onRaise (fun x => do noteFrame x cenv; theTreesLotGoes x)) _ _ _
  refine wpAny_noted ?_
  rw [compTurn_list1]
  refine wpAny_bind (wpAny_standAt (wpAny_bind ((turn n ys h hI hD).then fun r h₁ m₁ q => ?_)))
  cases r with
  | none => exact wpAny_pure ⟨ys, .mk q⟩
  | some v =>
    refine wpAny_bind (q.then fun _ h₂ m₂ q => wpAny_bind (q.then fun _ h₃ m₃ q => wpAny_bind (wpAny_bind (q.then fun y h₄ m₄ q => ?_))))
    obtain ⟨hD₄, hz, q⟩ := q
    refine wpAny_bind ((c_append (Q := fun v h₅ => v = .none ∧ Ext (· = D) h₄ h₅ ∧ LstAt h₅ D (ys ++ [y])) hD₄ (by omega) fun h₅ e l => ⟨rfl, e, l⟩).then fun v h₅ m₅ x => ?_)
    obtain ⟨rfl, e, l⟩ := x
    obtain ⟨k, hk, q⟩ := q h₅ e l
    exact wpAny_pure (wpAny_pure ⟨rfl, k, hk, _, h₅, m₅, rfl, l, q⟩)

/-- what a comprehension's block may use: D the new list, C its names -/
theorem comp_block {elt target iter : Expr} {scope : Scope} {cl : List (Str × Addr)} {pos : Pos} {it : Addr} {RR : Value → Addr → Result → Shared → Prop} {n : Nat}
    (hcell : ∀ y ∈ scope.names, y.2 ≠ .cell) (hkind : scope.kind = .function)
    (k : ∀ D C h₁, Ext None h h₁ → h.get? D = Option.none → h.get? C = Option.none → D ≠ C → LstAt h₁ D [] → h₁.Ns C (fun _ => Option.none) →
      ∃ (I : Nat → List Value → Heap → Prop) (n₀ : Nat) (R : List Value → Heap → Prop), I n₀ [] h₁ ∧ W prog w g A (pyIter (.ref it)) (fun v h₂ => v = .ref it ∧ h₂ = h₁) h₁ ∧
      (∀ n ys h, I n ys h → LstAt h D ys → W prog w g A (pyNext (.ref it)) (fun r h₁ => match r with
        | none => R ys h₁
        | some v => W prog w g A (letOwnedTupleGo target (.ref it) v) (fun _ h₂ => W prog w g A (assign target (compEnvC scope cl C env) v) (fun _ h₃ => W prog w g A (eval elt (compEnvC scope cl C env)) (fun y h₄ =>
          LstAt h₄ D ys ∧ ys.length ≤ 5000 ∧ ∀ h₅, Ext (· = D) h₄ h₅ → LstAt h₅ D (ys ++ [y]) → ∃ m, m < n ∧ I m (ys ++ [y]) h₅) h₃) h₂) h₁) h) ∧
      ∀ ys h m, R ys h → RR (.ref D) C (.ok .next) (sh g h m)) (hRR : ∀ D C f s, RR D C (.ok f) s ↔ RR D C (.ok .next) s) :
    wpAny (model prog w) A (newList []) (fun acc s₃ => wpAny (model prog w) A (newFunctionEnv scope env.globals cl [] env.qual none .none (some env)) (fun cenv s₄ =>
      codeAny (model prog w) A (.compStart (.ListComp elt [⟨target, iter, [], 0⟩] scope pos) 0 (.ref it) acc { cenv with scope := relabel scope env }) (RR acc cenv.locals) s₄) (fun _ _ => False) s₃) (fun _ _ => False) (sh g h n) := by
  refine wpAny_newObj_type (wpAny_newFunctionEnv hcell (by intro y hy; simp at hy) (fun h₁ hns₁ hsb₁ => ?_) hkind)
  have hC : (h.push { cls := .type "list", dict := none, data := .seq ([] : List Value).toArray }).objs.size = h.objs.size + 1 := Heap.size_push ..
  have hne : h.objs.size ≠ (h.push { cls := .type "list", dict := none, data := .seq ([] : List Value).toArray }).objs.size := by rw [hC]; exact Nat.ne_of_lt (Nat.lt_succ_self _)
  have kp : ∀ b o, (h.push { cls := .type "list", dict := none, data := .seq ([] : List Value).toArray }).get? b = some o → h₁.get? b = some o := fun b o e =>
    (hsb₁.2 b (Nat.ne_of_lt (Heap.lt_size e))).trans (Heap.get?_push_of_some _ e)
  have hn2 : h.get? (h.push { cls := .type "list", dict := none, data := .seq ([] : List Value).toArray }).objs.size = Option.none := by
    cases e : h.get? (h.push { cls := .type "list", dict := none, data := .seq ([] : List Value).toArray }).objs.size with
    | none => rfl
    | some o => have := Heap.lt_size e; rw [hC] at this; exact absurd (Nat.lt_of_succ_lt this) (Nat.lt_irrefl _)
  obtain ⟨I, n₀, R, hI, hself, turn, fin⟩ := k h.objs.size _ h₁ (Ext.grown fun b o e => kp _ _ (Heap.get?_push_of_some _ e)) (size_none _) hn2 hne ⟨0, kp _ _ (Heap.get?_push_size _ rfl)⟩ hns₁
  have loop : ∀ m, codeAny (model prog w) A (.compLoop (.ListComp elt [⟨target, iter, [], 0⟩] scope pos) 0 (.ref it) (.ref h.objs.size) (compEnvC scope cl _ env)) (RR (.ref h.objs.size) _) (sh g h₁ m) := fun m =>
    codeAny_mono (comp_loop I n₀ hI ⟨0, kp _ _ (Heap.get?_push_size _ rfl)⟩ turn) fun r s' q => by
      cases r with
      | ok f => obtain ⟨ys, h', m', rfl, q⟩ := q; exact (hRR _ _ _ _).mpr (fin ys h' m' q)
      | error e => exact q.elim
  exact codeAny_compStart_list (loop _) (hself.then fun v h₂ m₂ ⟨e1, e2⟩ => by subst e1 e2; exact loop m₂)

/-- a list comprehension over one source, without tests -/
theorem e_comp {elt target iter : Expr} {scope : Scope} {pos : Pos} {Q : Value → Heap → Prop} (cl : List (Str × Addr))
    (hclos : closureFor scope env = pure cl) (hcell : ∀ y ∈ scope.names, y.2 ≠ .cell) (hkind : scope.kind = .function) (hnames : ∀ y ∈ scope.names, y.2 = .local → scope.names.lookup y.1 = some .local)
    (k : W prog w g A (eval iter env) (fun x h₁ => W prog w g A (pyIter x) (fun itv h₂ => ∃ it, itv = .ref it ∧ ∀ D C h₃, Ext None h₂ h₃ → h₂.get? D = Option.none → h₂.get? C = Option.none → D ≠ C → LstAt h₃ D [] → h₃.Ns C (fun _ => Option.none) →
      ∃ (I : Nat → List Value → Heap → Prop) (n₀ : Nat) (R : List Value → Heap → Prop), I n₀ [] h₃ ∧ W prog w g A (pyIter (.ref it)) (fun v h₂ => v = .ref it ∧ h₂ = h₃) h₃ ∧
      (∀ n ys h, I n ys h → LstAt h D ys → W prog w g A (pyNext (.ref it)) (fun r h₁ => match r with
        | none => R ys h₁
        | some v => W prog w g A (letOwnedTupleGo target (.ref it) v) (fun _ h₂ => W prog w g A (assign target (compEnvC scope cl C env) v) (fun _ h₃ => W prog w g A (eval elt (compEnvC scope cl C env)) (fun y h₄ =>
          LstAt h₄ D ys ∧ ys.length ≤ 5000 ∧ ∀ h₅, Ext (· = D) h₄ h₅ → LstAt h₅ D (ys ++ [y]) → ∃ m, m < n ∧ I m (ys ++ [y]) h₅) h₃) h₂) h₁) h) ∧
      ∀ ys h, R ys h → (∃ m, h.Ns C m) ∧ ∀ h', Heap.ExtBut C h h' → Q (.ref D) h') h₁) h)
    (hs : ∀ x, foldedSetIterable iter env x = pure x := by intro _; rfl) :
    W prog w g A (eval (.ListComp elt [⟨target, iter, [], 0⟩] scope pos) env) Q h := by
  refine ⟨fun n => ?_⟩
  rw [eval_ListComp]
  refine wpAny_comprehension_free (use := none) rfl hs hclos hkind hnames (k.then fun x h₁ m₁ k => k.then fun itv h₂ m₂ k => ?_)
  obtain ⟨it, rfl, k⟩ := k
  refine comp_block (RR := fun acc C => compPost (model prog w) A (fun _ _ => False) none (Post g Q) acc C) hcell hkind (fun D C h₃ e hD hC hne l ns => ?_) (fun _ _ _ _ => Iff.rfl)
  obtain ⟨I, n₀, R, a, b, c, d⟩ := k D C h₃ e hD hC hne l ns
  refine ⟨I, n₀, R, a, b, c, fun ys h m q => ?_⟩
  obtain ⟨⟨m', hn⟩, q⟩ := d ys h q
  exact ⟨m', hn, fun h' hb => .mk (q h' (Heap.SameBut.extBut hb))⟩

/-- the same, its list bound to a local name at once -/
theorem x_comp {elt target iter : Expr} {x : Str} {px : Pos} {scope : Scope} {pos spos : Pos} {Q : Flow → Heap → Prop} (cl : List (Str × Addr))
    (hsw : swapsWith (.ListComp elt [⟨target, iter, [], 0⟩] scope pos) (some (.Name x px)) spos.line env = pure true)
    (hclos : closureFor scope env = pure cl) (hcell : ∀ y ∈ scope.names, y.2 ≠ .cell) (hkind : scope.kind = .function) (hnames : ∀ y ∈ scope.names, y.2 = .local → scope.names.lookup y.1 = some .local)
    (k : W prog w g A (eval iter env) (fun x' h₁ => W prog w g A (pyIter x') (fun itv h₂ => ∃ it, itv = .ref it ∧ ∀ D C h₃, Ext None h₂ h₃ → h₂.get? D = Option.none → h₂.get? C = Option.none → D ≠ C → LstAt h₃ D [] → h₃.Ns C (fun _ => Option.none) →
      ∃ (I : Nat → List Value → Heap → Prop) (n₀ : Nat) (R : List Value → Heap → Prop), I n₀ [] h₃ ∧ W prog w g A (pyIter (.ref it)) (fun v h₂ => v = .ref it ∧ h₂ = h₃) h₃ ∧
      (∀ n ys h, I n ys h → LstAt h D ys → W prog w g A (pyNext (.ref it)) (fun r h₁ => match r with
        | none => R ys h₁
        | some v => W prog w g A (letOwnedTupleGo target (.ref it) v) (fun _ h₂ => W prog w g A (assign target (compEnvC scope cl C env) v) (fun _ h₃ => W prog w g A (eval elt (compEnvC scope cl C env)) (fun y h₄ =>
          LstAt h₄ D ys ∧ ys.length ≤ 5000 ∧ ∀ h₅, Ext (· = D) h₄ h₅ → LstAt h₅ D (ys ++ [y]) → ∃ m, m < n ∧ I m (ys ++ [y]) h₅) h₃) h₂) h₁) h) ∧
      ∀ ys h, R ys h → W prog w g A (storeName env x (.ref D)) (fun _ h₁ => (∃ m, h₁.Ns C m) ∧ ∀ h', Heap.ExtBut C h₁ h' → Q .next h') h) h₁) h)
    (hs : ∀ x, foldedSetIterable iter env x = pure x := by intro _; rfl) :
    W prog w g A (exec (.Assign [.Name x px] (.ListComp elt [⟨target, iter, [], 0⟩] scope pos) spos) env) Q h := by
  refine ⟨fun n => ?_⟩
  rw [exec_Assign_Name_used _ _ _ _ hsw]
  refine wpAny_bind (wpAny_standAt (wpAny_bind ?_))
  show wpAny _ A (do let _ ← comprehension (.ListComp elt [⟨target, iter, [], 0⟩] scope pos) scope env _ (newList []) false (eval iter env) (some (assign (.Name x px) env))) _ _ _
  refine wpAny_bind (wpAny_mono (wpAny_comprehension_free (use := some (assign (.Name x px) env)) (Q := fun _ s' => Post g Q .next s') rfl hs hclos hkind hnames (k.then fun x' h₁ m₁ k => k.then fun itv h₂ m₂ k => ?_)) (fun _ s' hq => wpAny_pure (wpAny_pure hq)) fun _ _ e => e)
  obtain ⟨it, rfl, k⟩ := k
  refine comp_block (RR := fun acc C => compPost (model prog w) A (fun _ _ => False) (some (assign (.Name x px) env)) (fun _ s' => Post g Q .next s') acc C) hcell hkind (fun D C h₃ e hD hC hne l ns => ?_) (fun _ _ _ _ => Iff.rfl)
  obtain ⟨I, n₀, R, a, b, c, d⟩ := k D C h₃ e hD hC hne l ns
  refine ⟨I, n₀, R, a, b, c, fun ys h m q => ?_⟩
  show wpAny _ A (assign (.Name x px) env (.ref D)) _ _ _
  refine wpAny_assign_Name ((d ys h q).then fun _ h₁ m₁ q => ?_)
  obtain ⟨⟨m', hn⟩, q⟩ := q
  exact ⟨m', hn, fun h' hb => .mk (q h' (Heap.SameBut.extBut hb))⟩
end
end Mine

end

section
open PySem PySem.W PySem.Calls PyProof.Rows
namespace Mine
section
variable {prog : Program} {w : World} {g : Shared} {hb : Heap} {A : Around} {h : Heap} {env : Env}

noncomputable def SlAt (h : Heap) (a : Addr) (l u st : Value) : Prop := h.get? a = some { cls := .type "slice", data := .fields #[l, u, st] }
theorem SlAt.is {a : Addr} {l u st : Value} (x : SlAt h a l u st) : h.IsSliceOf a l u st := ⟨_, x, rfl, rfl⟩

theorem e_unary {op : UnaryOp} {x : Expr} {pos : Pos} {Q : Value → Heap → Prop} (k : W prog w g A (eval x env) (fun v h₁ => W prog w g A (unaryOp op v) Q h₁) h) : W prog w g A (eval (.UnaryOp op x pos) env) Q h :=
  ⟨fun n => wpAny_UnaryOp (k.then fun _ _ _ x => x.go _)⟩
theorem o_neg {a : Int} {t : Tok} {Q : Value → Heap → Prop} (k : ∀ u, Q (.int (-a) u) h) : W prog w g A (unaryOp .USub (.int a t)) Q h := ⟨fun _ => PySem.P.neg_int (.mk (k _))⟩

theorem e_slice {lower upper step : Option Expr} {p : Pos} {Q : Value → Heap → Prop}
    (k : W prog w g A (evalPart lower env) (fun l h₁ => W prog w g A (evalPart upper env) (fun u h₂ => W prog w g A (evalPart step env) (fun st h₃ => ∀ h₄ a, Ext None h₃ h₄ → h₃.get? a = none → SlAt h₄ a l u st → Q (.ref a) h₄) h₂) h₁) h) :
    W prog w g A (eval (.Slice lower upper step p) env) Q h :=
  ⟨fun n => wpAny_Slice (k.then fun _ _ _ x => x.then fun _ _ _ x => x.then fun _ h₃ _ x => .mk (x _ _ Ext.push (size_none _) (Heap.get?_push_size _ rfl)))⟩
theorem p_none {Q : Value → Heap → Prop} (k : Q .none h) : W prog w g A (evalPart none env) Q h := ⟨fun _ => wpAny_pure (.mk k)⟩
theorem p_some {e : Expr} {Q : Value → Heap → Prop} (k : W prog w g A (eval e env) Q h) : W prog w g A (evalPart (some e) env) Q h := ⟨fun n => k.go n⟩
/-- [1:] -/
theorem e_from1 {kd : Nat} {cp p : Pos} {Q : Value → Heap → Prop} (k : ∀ h₂ sl u, Ext None h h₂ → h.get? sl = none → SlAt h₂ sl (.int 1 u) .none .none → Q (.ref sl) h₂) :
    W prog w g A (eval (.Slice (some (.Constant (.int 1) kd cp)) none none p) env) Q h :=
  e_slice <| p_some <| e_int fun u => p_none <| p_none fun h₄ a e hn x => k h₄ a u e hn x

theorem t_tup_from {value slice : Expr} {t sl : Addr} {v : Value} {vs : List Value} {u : Tok} {Q : Value → Heap → Prop} (ht : TupAt h t (v :: vs)) (hs : SlAt h sl (.int 1 u) .none .none) (hz : vs.length ≤ 9000)
    (k : ∀ h₁ a, Ext None h h₁ → h.get? a = none → TupAt h₁ a vs → Q (.ref a) h₁)
    (hsu : subscripted slice false (.ref t) (.ref sl) = operate [.ref sl, .ref t] (getItem (.ref t) (.ref sl)) := by with_unfolding_all rfl) :
    W prog w g A (subscriptTail value slice (.ref t) (.ref sl)) Q h :=
  ⟨fun n => tail_any (s := sh g h n) (TupAt.isTuple ht).typeIs slot_tuple_getitem.lookup (PyProof.Rows.getItem_tuple_from (s := sh g h n) (a := 1) (TupAt.isTuple ht) hs.is (Nat.le_refl _) (by simp)
    (.mk (k _ _ Ext.push (size_none _) ⟨0, Heap.get?_push_size _ rfl⟩)) (by simp [sizeLine_eq]; omega)) hsu⟩

theorem t_list_slice {value slice : Expr} {l sl : Addr} {vs : List Value} {vl vu : Value} {lo hi : Option Int} {Q : Value → Heap → Prop} (hl : LstAt h l vs) (hs : SlAt h sl vl vu .none) (pl : IsPart vl lo) (pu : IsPart vu hi) (hz : vs.length ≤ 9000)
    (k : ∀ h₁ a, Ext None h h₁ → h.get? a = none → LstAt h₁ a (slicePick vs.toArray lo hi none).toList → Q (.ref a) h₁)
    (hsu : subscripted slice false (.ref l) (.ref sl) = operate [.ref sl, .ref l] (getItem (.ref l) (.ref sl)) := by with_unfolding_all rfl) :
    W prog w g A (subscriptTail value slice (.ref l) (.ref sl)) Q h :=
  ⟨fun n => tail_any (s := sh g h n) (LstAt.isList hl).typeIs slot_list_getitem.lookup (wpAny_getItem_list_slice (s := sh g h n) (LstAt.isList hl) hs.is pl pu .none (by simp)
    (.mk (k _ _ Ext.push (size_none _) ⟨0, by rw [Array.toArray_toList]; exact Heap.get?_push_size _ rfl⟩)) (by simp [sizeLine_eq]; omega)) hsu⟩
theorem t_list_from {value slice : Expr} {l sl : Addr} {vs : List Value} {i : Nat} {u : Tok} {Q : Value → Heap → Prop} (hl : LstAt h l vs) (hs : SlAt h sl (.int i u) .none .none) (hz : vs.length ≤ 9000)
    (k : ∀ h₁ a, Ext None h h₁ → h.get? a = none → LstAt h₁ a (vs.drop i) → Q (.ref a) h₁)
    (hsu : subscripted slice false (.ref l) (.ref sl) = operate [.ref sl, .ref l] (getItem (.ref l) (.ref sl)) := by with_unfolding_all rfl) :
    W prog w g A (subscriptTail value slice (.ref l) (.ref sl)) Q h :=
  t_list_slice hl hs (.int _ _) .none hz (fun h₁ a e hn x => k h₁ a e hn (by rw [slicePick_from'] at x; simpa using x)) hsu
theorem t_list_upto {value slice : Expr} {l sl : Addr} {vs : List Value} {i : Nat} {u : Tok} {Q : Value → Heap → Prop} (hl : LstAt h l vs) (hs : SlAt h sl .none (.int i u) .none) (hz : vs.length ≤ 9000)
    (k : ∀ h₁ a, Ext None h h₁ → h.get? a = none → LstAt h₁ a (vs.take i) → Q (.ref a) h₁)
    (hsu : subscripted slice false (.ref l) (.ref sl) = operate [.ref sl, .ref l] (getItem (.ref l) (.ref sl)) := by with_unfolding_all rfl) :
    W prog w g A (subscriptTail value slice (.ref l) (.ref sl)) Q h :=
  t_list_slice hl hs .none (.int _ _) hz (fun h₁ a e hn x => k h₁ a e hn (by rw [slicePick_upto'] at x; simpa using x)) hsu

/-- [:0:-1] of a tuple: all but the first, the last first -/
theorem adjust_rev (n : Nat) (hn : 1 ≤ n) : Builtin.Slice.sliceAdjust none (some (0 : Int)) (-1) (n : Int) = ((n : Int) - 1, 0) := by
  unfold Builtin.Slice.sliceAdjust
  simp
  omega
theorem places_rev (n : Nat) (hn : 1 ≤ n) : Builtin.Slice.slicePlaces ((n : Int) - 1) 0 (-1) = n - 1 := by
  unfold Builtin.Slice.slicePlaces
  simp
  split <;> omega
theorem filterMap_all {α β : Type} {f : α → Option β} {g : α → β} : ∀ {l : List α}, (∀ k ∈ l, f k = some (g k)) → l.filterMap f = l.map g
  | [], _ => rfl
  | a :: l, h => by rw [List.filterMap_cons, h a (.head _), List.map_cons, filterMap_all fun k hk => h k (.tail _ hk)]
theorem pick_rev (v : Value) (vs : List Value) : ((List.range vs.length).filterMap fun (k : Nat) => (v :: vs).toArray[(((vs.length : Int)) + (k : Int) * (-1)).toNat]?) = vs.reverse := by
  apply List.ext_getElem?
  intro i
  have e : (fun (k : Nat) => (v :: vs).toArray[(((vs.length : Int)) + (k : Int) * (-1)).toNat]?) = fun k => (v :: vs)[vs.length - k]? := by
    funext k
    have : ((vs.length : Int) + (k : Int) * -1).toNat = vs.length - k := by omega
    rw [this]; simp
  rw [e, filterMap_all (g := fun k => (v :: vs)[vs.length - k]!) fun k hk => by
    rw [List.mem_range] at hk
    rw [List.getElem?_eq_getElem (by simp; omega), getElem!_pos _ _ (by simp; omega)]]
  by_cases hi : i < vs.length
  · rw [List.getElem?_eq_getElem (by simpa using hi), List.getElem?_eq_getElem (by simpa using hi)]
    simp only [List.getElem_map, List.getElem_range, List.getElem_reverse]
    rw [getElem!_pos _ _ (by simp; omega)]
    congr 1
    have : vs.length - i = (vs.length - 1 - i) + 1 := by omega
    simp only [this, List.getElem_cons_succ]
  · rw [List.getElem?_eq_none (by simpa using hi), List.getElem?_eq_none (by simpa using hi)]
theorem applied_rev {s : Shared} {E : Value → Shared → Prop} {sl : Addr} {n : Nat} {u v : Tok} {Q : Int × Int × Nat → Shared → Prop} (hs : s.heap.IsSliceOf sl .none (.int 0 u) (.int (-1) v)) (hn : 1 ≤ n) (k : Q ((n : Int) - 1, -1, n - 1) s) :
    wpAny (model prog w) A (Builtin.Slice.sliceApplied (.ref sl) (pure (n : Int))) Q E s := by
  obtain ⟨os, hos, hcs, hds⟩ := id hs
  unfold Builtin.Slice.sliceApplied Builtin.Slice.sliceFields
  refine wpAny_bind (wpAny_bind (wpAny_field hos hds (x := .none) rfl (wpAny_bind (wpAny_field hos hds (x := .int 0 u) rfl (wpAny_bind (wpAny_field hos hds (x := .int (-1) v) rfl (wpAny_pure ?_)))))))
  refine wpAny_bind (slicePart_int ?_)
  show wpAny _ _ (if ((-1 : Int) == 0) = true then _ else _) _ _ s
  rw [if_neg (by decide)]
  refine wpAny_bind (slicePart_none (wpAny_bind (slicePart_int (wpAny_bind (wpAny_pure ?_)))))
  show wpAny _ _ (match Builtin.Slice.sliceAdjust none (some (0 : Int)) (-1) (n : Int) with | (lo, hi) => pure (lo, (-1 : Int), Builtin.Slice.slicePlaces lo hi (-1))) _ _ s
  rw [adjust_rev n hn]
  show wpAny _ _ (pure (((n : Int) - 1), (-1 : Int), Builtin.Slice.slicePlaces ((n : Int) - 1) 0 (-1))) _ _ s
  rw [places_rev n hn]
  exact wpAny_pure k
theorem g_tup_rev {t sl : Addr} {x : Value} {vs : List Value} {u v : Tok} {Q : Value → Heap → Prop} (ht : TupAt h t (x :: vs)) (hs : SlAt h sl .none (.int 0 u) (.int (-1) v)) (hz : vs.length ≤ 9000)
    (k : ∀ h₁ a, Ext None h h₁ → h.get? a = none → TupAt h₁ a vs.reverse → Q (.ref a) h₁) : W prog w g A (getItem (.ref t) (.ref sl)) Q h := by
  refine ⟨fun n => ?_⟩
  have ht' : IsTup (sh g h n).heap t (x :: vs).toArray := TupAt.isTuple ht
  have hTs : (sh g h n).TypeIs (.ref sl) "slice" := ⟨_, hs, rfl⟩
  unfold getItem
  try with_reducible refine wpAny_holding ?_
  first | refine wpAny_bind (wpAny_pure ?_) | skip
  refine wpAny_bind (wpAny_sequenceKey ht'.typeIs (by decide) ?_)
  refine wpAny_bind (wpAny_callSpecial?_slot (name := Str.ofString "__getitem__") ht'.typeIs slot_tuple_getitem
    (wpAny_call_entry slot_tuple_getitem ht'.typeIs entry_tuple_getitem ?_ (args_tuple_getitem _ _)))
  show wpAny _ _ (Builtin.Tuple.tupleItemsOf (.ref t) >>= _) _ _ _
  refine wpAny_bind (tupleItemsOf_ ht' ?_)
  refine wpAny_bind (wpAny_typeOf hTs ?_)
  rw [if_pos (by decide)]
  have hsz : ((x :: vs).toArray.size : Int) = ((vs.length + 1 : Nat) : Int) := by simp
  rw [hsz]
  refine wpAny_bind (applied_rev hs.is (by omega) ?_)
  have e1 : ((vs.length + 1 : Nat) : Int) - 1 = (vs.length : Int) := by omega
  rw [e1, Nat.add_sub_cancel]
  show wpAny _ _ (if ((vs.length : Int) == 0 && (-1 : Int) == 1 && vs.length == (x :: vs).toArray.size) = true then _ else _) _ _ _
  rw [if_neg (by simp), pick_rev]
  have hok : sizeOk (.seq vs.reverse.toArray) := by
    show vs.reverse.toArray.size ≤ sizeLine
    simp [sizeLine_eq]; omega
  have fin := k _ _ Ext.push (size_none _) ⟨0, Heap.get?_push_size (o := tupO vs.reverse 0) _ rfl⟩
  exact wpAny_bind (m := Builtin.Tuple.tupleExact _) (wpAny_newObj_type (wpAny_pure ⟨_, rfl, wpAny_pure (.mk fin)⟩) hok)
theorem t_tup_rev {value slice : Expr} {t sl : Addr} {x : Value} {vs : List Value} {u v : Tok} {Q : Value → Heap → Prop} (ht : TupAt h t (x :: vs)) (hs : SlAt h sl .none (.int 0 u) (.int (-1) v)) (hz : vs.length ≤ 9000)
    (k : ∀ h₁ a, Ext None h h₁ → h.get? a = none → TupAt h₁ a vs.reverse → Q (.ref a) h₁)
    (hsu : subscripted slice false (.ref t) (.ref sl) = operate [.ref t, .ref sl] (getItem (.ref t) (.ref sl)) := by with_unfolding_all rfl) :
    W prog w g A (subscriptTail value slice (.ref t) (.ref sl)) Q h :=
  ⟨fun n => tail_any (s := sh g h n) (TupAt.isTuple ht).typeIs slot_tuple_getitem.lookup ((g_tup_rev ht hs hz k).go n) hsu⟩

/-- + -/
theorem o_add_tup {t b : Addr} {vs ws : List Value} {Q : Value → Heap → Prop} (ht : TupAt h t vs) (hb : TupAt h b ws) (hz : vs.length + ws.length ≤ 9000)
    (k : ∀ h₁ a, Ext None h h₁ → TupAt h₁ a (vs ++ ws) → Q (.ref a) h₁) : W prog w g A (binaryOp .Add (.ref t) (.ref b)) Q h := by
  obtain ⟨n1, ho⟩ := id ht
  obtain ⟨n2, ho2⟩ := id hb
  by_cases hv : vs = []
  · subst hv
    exact ⟨fun n => concat_meets (s := sh g h n) ⟨_, ho, rfl⟩ ⟨_, ho2, rfl⟩ noFill_tuple_add seq_tuple_add PySem.F.slot_tuple_add PySem.F.entry_tuple_add (PySem.F.args_tuple_add_2 _ _)
      (AutoSeq1.tuple___add___tuple_tuple_0 t _ n1 b _ n2 (by simp)) ⟨ho, ho2, .mk (k _ _ .refl hb)⟩⟩
  · by_cases hw : ws = []
    · subst hw
      exact ⟨fun n => concat_meets (s := sh g h n) ⟨_, ho, rfl⟩ ⟨_, ho2, rfl⟩ noFill_tuple_add seq_tuple_add PySem.F.slot_tuple_add PySem.F.entry_tuple_add (PySem.F.args_tuple_add_2 _ _)
        (AutoSeq1.tuple___add___tuple_tuple_1 t _ n1 b _ n2 (by simpa using hv) (by simp)) ⟨ho, ho2, .mk (k _ _ .refl (by simpa using ht))⟩⟩
    · exact ⟨fun n => concat_meets (s := sh g h n) ⟨_, ho, rfl⟩ ⟨_, ho2, rfl⟩ noFill_tuple_add seq_tuple_add PySem.F.slot_tuple_add PySem.F.entry_tuple_add (PySem.F.args_tuple_add_2 _ _)
        (AutoSeq1.tuple___add___tuple_tuple_2 t _ n1 b _ n2 (by simpa using hv) (by simpa using hw) (by simp [sizeLine_eq]; omega))
          ⟨ho, ho2, .mk (k _ _ Ext.push ⟨0, by rw [show vs.toArray ++ ws.toArray = (vs ++ ws).toArray by simp]; exact Heap.get?_push_size _ rfl⟩)⟩⟩
theorem o_add_lst {t b : Addr} {vs ws : List Value} {Q : Value → Heap → Prop} (ht : LstAt h t vs) (hb : LstAt h b ws) (hz : vs.length + ws.length ≤ 9000)
    (k : ∀ h₁ a, Ext None h h₁ → h.get? a = none → LstAt h₁ a (vs ++ ws) → Q (.ref a) h₁) : W prog w g A (binaryOp .Add (.ref t) (.ref b)) Q h := by
  obtain ⟨n1, ho⟩ := id ht
  obtain ⟨n2, ho2⟩ := id hb
  exact ⟨fun n => concat_meets (s := sh g h n) ⟨_, ho, rfl⟩ ⟨_, ho2, rfl⟩ noFill_list_add seq_list_add PySem.F.slot_list_add PySem.F.entry_list_add (PySem.F.args_list_add_2 _ _)
        (AutoSeq1.list___add___list_list_0 t _ n1 b _ n2 (by simp [sizeLine_eq]; omega))
          ⟨ho, ho2, .mk (k _ _ Ext.push (size_none _) ⟨0, by rw [show vs.toArray ++ ws.toArray = (vs ++ ws).toArray by simp]; exact Heap.get?_push_size _ rfl⟩)⟩⟩

/-- tuple(..), list(..) -/
theorem c_tuple_tup {t : Addr} {vs : List Value} {Q : Value → Heap → Prop} (ht : TupAt h t vs) (k : Q (.ref t) h) : W prog w g A (call (.type "tuple") [.ref t]) Q h :=
  ⟨fun n => call_tuple_same (s := sh g h n) (TupAt.isTuple ht) (.mk k)⟩
theorem c_tuple_lst {t : Addr} {vs : List Value} {Q : Value → Heap → Prop} (ht : LstAt h t vs) (hz : vs.length ≤ 9000) (k : ∀ h₁ a, Ext None h h₁ → h.get? a = none → TupAt h₁ a vs → Q (.ref a) h₁) : W prog w g A (call (.type "tuple") [.ref t]) Q h :=
  ⟨fun n => call_tuple_list (s := sh g h n) (LstAt.isList ht) (fun h' hk => .mk (k _ _ (Ext.grown fun b o e => Heap.get?_push_of_some _ (hk b o e))
    (by
      cases e : h.get? h'.objs.size with
      | none => rfl
      | some o => exact absurd (Heap.lt_size (hk _ _ e)) (Nat.lt_irrefl _)) ⟨0, Heap.get?_push_size _ rfl⟩)) (by simp [sizeLine_eq]; omega)⟩

/-- a list is not a list of another length -/
theorem o_ne_len {a b : Addr} {vs ws : List Value} {Q : Value → Heap → Prop} (ha : LstAt h a vs) (hb : LstAt h b ws) (hl : vs.length ≠ ws.length) (hu : A.units < cLine) (k : Q (.bool true) h) : W prog w g A (compareOp .NotEq (.ref a) (.ref b)) Q h :=
  ⟨fun n => PySem.SeqAt.RcNeAt.lists_lengths (s := sh g h n) (LstAt.isList ha) (LstAt.isList hb) (by simpa using hl) hu _ _ _ _ (.mk k)⟩
end
end Mine

end

section
open PySem PySem.W PySem.Calls PyProof.Rows
namespace Mine

/-- terms -/
inductive T where
  | leaf (o : Str)
  | one (o : Str) (t : T)
  | two (o : Str) (l r : T)
namespace T
noncomputable def op : T → Str
  | leaf o => o | one o _ => o | two o _ _ => o
noncomputable def kids : T → List T
  | leaf _ => [] | one _ t => [t] | two _ l r => [l, r]
noncomputable def size : T → Nat
  | leaf _ => 1 | one _ t => 1 + t.size | two _ l r => 1 + (l.size + r.size)
noncomputable def deep : T → Nat
  | leaf _ => 1 | one _ t => 1 + t.deep | two _ l r => 1 + max l.deep r.deep
noncomputable def rows : T → List (Str × Nat)
  | leaf o => [(o, 0)] | one o t => (o, 1) :: t.rows | two o l r => (o, 2) :: (l.rows ++ r.rows)
noncomputable def subs : T → List T
  | leaf o => [leaf o] | one o t => one o t :: t.subs | two o l r => two o l r :: (l.subs ++ r.subs)
theorem kids_len (t : T) : t.kids.length ≤ 2 := by cases t <;> simp [kids]
theorem rows_eq (t : T) : t.rows = (t.op, t.kids.length) :: t.kids.flatMap rows := by cases t <;> simp [rows, op, kids]
theorem subs_eq (t : T) : t.subs = t :: t.kids.flatMap subs := by cases t <;> simp [subs, kids]
theorem size_pos (t : T) : 1 ≤ t.size := by cases t <;> simp [size] <;> omega
theorem size_eq (t : T) : t.size = 1 + (t.kids.map size).sum := by cases t <;> simp [size, kids]
theorem rows_len (t : T) : t.rows.length = t.size := by
  induction t with
  | leaf o => rfl
  | one o t h => simp [rows, size, h]; omega
  | two o l r h k => simp [rows, size, h, k]; omega
theorem subs_len (t : T) : t.subs.length = t.size := by
  induction t with
  | leaf o => rfl
  | one o t h => simp [subs, size, h]; omega
  | two o l r h k => simp [subs, size, h, k]; omega
theorem flat_len : ∀ ts : List T, ts.length ≤ (ts.flatMap rows).length
  | [] => Nat.le_refl _
  | t :: ts => by have := flat_len ts; have := t.size_pos; simp only [List.flatMap_cons, List.length_append, List.length_cons, rows_len]; omega
theorem flat_len_sum : ∀ ts : List T, (ts.flatMap rows).length = (ts.map size).sum
  | [] => rfl
  | t :: ts => by simp [flat_len_sum ts, rows_len]
theorem rows_subs (t : T) : t.rows = t.subs.map fun s => (s.op, s.kids.length) := by
  induction t with
  | leaf o => rfl
  | one o t h => simp [rows, subs, h, op, kids]
  | two o l r h k => simp [rows, subs, h, k, op, kids]
end T

theorem Ext.at {h h₁ h₂ : Heap} {a : Addr} (x : Ext None h h₁) (y : Ext (· = a) h₁ h₂) (k : h.get? a = none) : Ext None h h₂ := x.trans' y (by rintro b rfl; exact .inr k)

inductive All2 {α β : Type} (R : α → β → Prop) : List α → List β → Prop
  | nil : All2 R [] []
  | cons {a b as bs} : R a b → All2 R as bs → All2 R (a :: as) (b :: bs)
namespace All2
variable {α β : Type} {R S : α → β → Prop}
theorem length {as : List α} {bs : List β} (x : All2 R as bs) : as.length = bs.length := by induction x <;> simp_all
theorem imp {as : List α} {bs : List β} (x : All2 R as bs) (k : ∀ a b, R a b → S a b) : All2 S as bs := by
  induction x with
  | nil => exact .nil
  | cons h _ ih => exact .cons (k _ _ h) ih
theorem append {as cs : List α} {bs ds : List β} (x : All2 R as bs) (y : All2 R cs ds) : All2 R (as ++ cs) (bs ++ ds) := by
  induction x with
  | nil => exact y
  | cons h _ ih => exact .cons h ih
theorem snoc {as : List α} {bs : List β} {a : α} {b : β} (x : All2 R as bs) (y : R a b) : All2 R (as ++ [a]) (bs ++ [b]) := x.append (.cons y .nil)
theorem reverse {as : List α} {bs : List β} (x : All2 R as bs) : All2 R as.reverse bs.reverse := by
  induction x with
  | nil => exact .nil
  | cons h _ ih => rw [List.reverse_cons, List.reverse_cons]; exact ih.snoc h
theorem get {as : List α} {bs : List β} (x : All2 R as bs) {i : Nat} {b : β} (h : bs[i]? = some b) : ∃ a, as[i]? = some a ∧ R a b := by
  induction x generalizing i with
  | nil => simp at h
  | cons hd _ ih => cases i with
    | zero => simp at h; subst h; exact ⟨_, rfl, hd⟩
    | succ i => simpa using ih (by simpa using h)
theorem get' {as : List α} {bs : List β} (x : All2 R as bs) {i : Nat} {a : α} (h : as[i]? = some a) : ∃ b, bs[i]? = some b ∧ R a b := by
  induction x generalizing i with
  | nil => simp at h
  | cons hd _ ih => cases i with
    | zero => simp at h; subst h; exact ⟨_, rfl, hd⟩
    | succ i => simpa using ih (by simpa using h)
theorem drop {as : List α} {bs : List β} (x : All2 R as bs) : ∀ n, All2 R (as.drop n) (bs.drop n) := by
  induction x with
  | nil => intro n; simp; exact .nil
  | cons h t ih => intro n; cases n with
    | zero => exact .cons h t
    | succ n => simpa using ih n
theorem take {as : List α} {bs : List β} (x : All2 R as bs) : ∀ n, All2 R (as.take n) (bs.take n) := by
  induction x with
  | nil => intro n; simp; exact .nil
  | cons h t ih => intro n; cases n with
    | zero => exact .nil
    | succ n => simpa using .cons h (ih n)
end All2

noncomputable def TermAt (h : Heap) : T → Value → Prop
  | .leaf o, v => ∃ a u, v = .ref a ∧ TupAt h a [.str o u]
  | .one o t, v => ∃ a u k, v = .ref a ∧ TupAt h a [.str o u, k] ∧ TermAt h t k
  | .two o l r, v => ∃ a u k j, v = .ref a ∧ TupAt h a [.str o u, k, j] ∧ TermAt h l k ∧ TermAt h r j
section
variable {Y : Addr → Prop} {h h₁ : Heap}
/-- tuples stand -/
noncomputable def Tk (h h' : Heap) : Prop := ∀ b vs n, h.get? b = some (tupO vs n) → h'.get? b = some (tupO vs n)
theorem Tk.trans {h h₁ h₂ : Heap} (x : Tk h h₁) (y : Tk h₁ h₂) : Tk h h₂ := fun b vs n q => y b vs n (x b vs n q)
theorem TupAt.tk {a : Addr} {vs : List Value} (x : TupAt h a vs) (k : Tk h h₁) : TupAt h₁ a vs := let ⟨n, q⟩ := x; ⟨n, k _ _ _ q⟩
theorem TermAt.tk {t : T} {v : Value} (x : TermAt h t v) (e : Tk h h₁) : TermAt h₁ t v := by
  induction t generalizing v with
  | leaf o => obtain ⟨a, u, e1, p⟩ := x; exact ⟨a, u, e1, p.tk e⟩
  | one o t ih => obtain ⟨a, u, k, e1, p, q⟩ := x; exact ⟨a, u, k, e1, p.tk e, ih q⟩
  | two o l r ih jh => obtain ⟨a, u, k, j, e1, p, q, r⟩ := x; exact ⟨a, u, k, j, e1, p.tk e, ih q, jh r⟩
theorem TermAt.to {t : T} {v : Value} (x : TermAt h t v) (e : Ext Y h h₁) : TermAt h₁ t v := x.tk e.tup
theorem Tk.fin {it : Addr} {h h' : Heap} (k : Heap.ExtBut it h h') (n : ∀ o, h.get? it = some o → o.cls ≠ .type "tuple") : Tk h h' := fun b vs m q => k _ _ (by rintro rfl; exact n _ q rfl) q
theorem Tk.list {it l : Addr} {i : Nat} {h h' : Heap} (k : Heap.ExtBut it h h') (x : h.IsListIter it l i) : Tk h h' := .fin k fun o q => by
  obtain ⟨o', p, c, _⟩ := x; rw [p] at q; rw [← Option.some.inj q, c]; simp
theorem Tk.tuple {it l : Addr} {i : Nat} {h h' : Heap} (k : Heap.ExtBut it h h') (x : h.IsTupleIter it l i) : Tk h h' := .fin k fun o q => by
  obtain ⟨o', p, c, _⟩ := x; rw [p] at q; rw [← Option.some.inj q, c]; simp
theorem Tk.range {it : Addr} {a b c : Int} {h h' : Heap} (k : Heap.ExtBut it h h') (x : IsRangeIter h it a b c) : Tk h h' := .fin k fun o q => by
  rw [show h.get? it = _ from x] at q; rw [← Option.some.inj q]; simp
theorem Tk.ns {C : Addr} {m : Str → Option Value} {h h' : Heap} (k : Heap.ExtBut C h h') (x : h.Ns C m) : Tk h h' := fun b vs n q => k _ _ (by rintro rfl; exact ns_ne_tup x _ q vs n rfl) q
theorem TermAt.view {t : T} {v : Value} (x : TermAt h t v) : ∃ a u ks, v = .ref a ∧ TupAt h a (.str t.op u :: ks) ∧ All2 (TermAt h) t.kids ks := by
  cases t with
  | leaf o => obtain ⟨a, u, e1, p⟩ := x; exact ⟨a, u, [], e1, p, .nil⟩
  | one o t => obtain ⟨a, u, k, e1, p, q⟩ := x; exact ⟨a, u, [k], e1, p, .cons q .nil⟩
  | two o l r => obtain ⟨a, u, k, j, e1, p, q, r⟩ := x; exact ⟨a, u, [k, j], e1, p, .cons q (.cons r .nil)⟩
theorem TermAt.make {t : T} {a : Addr} {u : Tok} {ks : List Value} (p : TupAt h a (.str t.op u :: ks)) (q : All2 (TermAt h) t.kids ks) : TermAt h t (.ref a) := by
  cases t with
  | leaf o => cases q; exact ⟨a, u, rfl, p⟩
  | one o t => cases q with | cons q1 r => cases r; exact ⟨a, u, _, rfl, p, q1⟩
  | two o l r => cases q with | cons q1 r => cases r with | cons q2 r => cases r; exact ⟨a, u, _, _, rfl, p, q1, q2⟩
theorem terms_tk {ts : List T} {vs : List Value} (x : All2 (TermAt h) ts vs) (e : Tk h h₁) : All2 (TermAt h₁) ts vs := x.imp fun _ _ q => q.tk e
theorem terms_to {ts : List T} {vs : List Value} (x : All2 (TermAt h) ts vs) (e : Ext Y h h₁) : All2 (TermAt h₁) ts vs := x.imp fun _ _ q => q.to e

noncomputable def RowAt (h : Heap) (r : Str × Nat) (v : Value) : Prop := ∃ a u t, v = .ref a ∧ TupAt h a [.str r.1 u, .int r.2 t]
theorem RowAt.to {r : Str × Nat} {v : Value} (x : RowAt h r v) (e : Ext Y h h₁) : RowAt h₁ r v := let ⟨a, u, t, p, q⟩ := x; ⟨a, u, t, p, q.to e⟩
theorem rows_to {ts : List (Str × Nat)} {vs : List Value} (x : All2 (RowAt h) ts vs) (e : Ext Y h h₁) : All2 (RowAt h₁) ts vs := x.imp fun _ _ q => q.to e
end

section
variable {prog : Program} {w : World} {g : Shared} {hb : Heap} {A : Around} {h : Heap} {env : Env}
theorem o_ne_empty {a b : Addr} {Q : Value → Heap → Prop} (ha : LstAt h a []) (hb : LstAt h b []) (hu : A.units < cLine) (k : Q (.bool false) h) : W prog w g A (compareOp .NotEq (.ref a) (.ref b)) Q h :=
  ⟨fun n => PySem.SeqAt.RcNeAt.lists (s := sh g h n) (e := fun _ => true) (LstAt.isList ha) (LstAt.isList hb) rfl hu (fun j h1 => by simp at h1) _ _ _ _ (.mk k)⟩
theorem Rm.u {A : Around} {k : Nat} (x : Rm A k) : A.units < cLine := by have := x.units; omega

theorem row_ok {t : T} {v : Value} {Q : Value → Heap → Prop} (B : Base w hb) (S : St hb h) (R : Rm A 1) (ht : TermAt h t v) (hz : t.size ≤ 1000)
    (k : ∀ h₁ a vs, Ext None h h₁ → h.get? a = none → LstAt h₁ a vs → All2 (RowAt h₁) t.rows vs → Q (.ref a) h₁) :
    W prog w g A (call (.ref 216) [v]) Q h := by
  refine call_def (k := 0) [("t", v)] B S R rfl rfl rfl rfl (by decide) rfl rfl rfl fun h₁ L e₁ S₁ R₁ hL hn₁ => ?_
  refine W.hideL ?_
  intro K
  refine x_cons ?_
  refine W.hideL ?_
  intro K
  refine as_pair R₁.hh <| e_tup <| i_cons <| e_lst <| i_nil ⟨Nat.le_of_ble_eq_true rfl, fun h₂ f e₂ hf lf => ?_⟩
  refine i_cons <| e_lst <| i_cons <| e_local (ns_to hn₁ e₂) rfl <| i_nil ⟨Nat.le_of_ble_eq_true rfl, fun h₃ wt e₃ hw lw => ?_⟩
  refine i_nil ⟨Nat.le_of_ble_eq_true rfl, fun h₄ p e₄ _ tp => ⟨p, _, _, _, rfl, tp, ns_to (ns_to (ns_to hn₁ e₂) e₃) e₄, fun h₅ e₅ hn₅ => ?_⟩⟩
  have fL : f ≠ L := (ne_new (ns_some hn₁) hf).symm
  have wL : wt ≠ L := (ne_new (ns_some (ns_to hn₁ e₂)) hw).symm
  have fw : f ≠ wt := ne_new lf.some hw
  have hf0 : h.get? f = none := e₁.new hf
  have hw0 : h.get? wt = none := (e₁.trans e₂).new hw
  have E5 : Ext None h h₅ := Ext.trans' (((e₁.trans e₂).trans e₃).trans e₄) e₅ (by rintro b rfl; exact .inr hL)
  have lf5 : LstAt h₅ f [] := ((lf.to e₃).to e₄).to e₅ fL
  have lw5 : LstAt h₅ wt [v] := (lw.to e₄).to e₅ wL
  refine W.hideL ?_
  intro K
  refine x_cons ?_
  refine W.hideL ?_
  intro K
  refine x_while (fun n h' => ∃ m done stack vf vw, n = (stack.map T.size).sum ∧ Ext None h h' ∧ h'.Ns L m ∧ m "found" = some (.ref f) ∧ m "waiting" = some (.ref wt) ∧
      LstAt h' f vf ∧ All2 (RowAt h') done vf ∧ LstAt h' wt vw.reverse ∧ All2 (TermAt h') stack vw ∧ t.rows = done ++ stack.flatMap T.rows) t.size
    ⟨_, [], [t], [], [v], by simp, E5, hn₅, rfl, rfl, lf5, .nil, lw5, .cons (ht.to E5) .nil, by simp⟩ ?_
  rintro n h' ⟨m, done, stack, vf, vw, rfl, E, hn, mf, mw, lf, af, lw, aw, hr⟩
  have hlen : (done.length : Nat) + (stack.flatMap T.rows).length = t.size := by rw [← T.rows_len, hr]; simp
  refine b_cmp <| e_local hn mw <| e_lst <| i_nil ⟨Nat.le_of_ble_eq_true rfl, fun h₆ z e₆ _ lz => ?_⟩
  cases aw with
  | nil =>
    refine o_ne_empty (lw.to e₆) lz R₁.u ⟨false, rfl, ?_⟩
    refine W.hideL ?_
    intro K
    refine x_cons ?_
    refine W.hideL ?_
    intro K
    refine x_ret <| e_local (ns_to hn e₆) mf ?_
    refine k _ _ _ (E.trans e₆) hf0 (lf.to e₆) ?_
    rw [hr]; simpa using rows_to af e₆
  | cons q aw =>
    rename_i one v₁ stack vw
    refine o_ne_len (lw.to e₆) lz (by simp) R₁.u ⟨true, rfl, ?_⟩
    simp only [List.reverse_cons] at lw
    have hvw : vw.length ≤ 1000 ∧ vf.length ≤ 1000 := by
      have h1 := T.flat_len (one :: stack)
      have h2 := af.length
      have h3 := aw.length
      simp only [List.length_cons] at h1
      omega
    obtain ⟨a, u, ks, rfl, ta, ak⟩ := (q.to e₆).view
    refine W.hideL ?_
    intro K
    refine x_cons ?_
    refine W.hideL ?_
    intro K
    refine x_assign <| m_list F.slot_list_pop F.type_list_pop <| e_local (ns_to hn e₆) mw ⟨wt, _, rfl, lw.to e₆, i_nil <| c_pop (lw.to e₆) (by simp; omega) fun h₇ e₇ lw₇ => ?_⟩
    refine st_local (ns_to (ns_to hn e₆) e₇ wL.symm) fun h₈ e₈ hn₈ => ?_
    have lf₈ := (((lf.to e₆).to e₇ fw).to e₈ fL)
    have lw₈ := lw₇.to e₈ wL
    have ta₈ := (ta.to e₇).to e₈
    have E₈ : Ext None h h₈ := ((E.trans e₆).at e₇ hw0).at e₈ hL
    have S₈ : St hb h₈ := S.to E₈
    refine W.hideL ?_
    intro K
    refine x_cons ?_
    refine W.hideL ?_
    intro K
    refine x_expr <| m_list F.slot_list_append F.type_list_append <| e_local hn₈ mf ⟨f, _, rfl, lf₈, i_cons <| e_tup <| i_cons <| e_sub <| e_local hn₈ rfl <| e_int fun _ => t_tup (.str one.op u) ta₈ (by decide) (by decide) rfl ?_⟩
    refine i_cons <| e_bin <| c_bi B S₈ n_len <| i_cons <| e_local hn₈ rfl <| i_nil ⟨S₈, c_len_tup ta₈ (by have := one.kids_len; have := ak.length; simp; omega) fun _ => e_int fun _ => o_sub fun u₂ => ?_⟩
    refine i_nil ⟨Nat.le_of_ble_eq_true rfl, fun h₉ p e₉ hp tp => i_nil <| c_append (lf₈.to e₉) (by omega) fun h₁₀ e₁₀ lf₁₀ => ⟨rfl, ?_⟩⟩
    have hn₁₀ := ns_to (ns_to hn₈ e₉) e₁₀ (Ne.symm fL)
    have lw₁₀ := (lw₈.to e₉).to e₁₀ fw.symm
    have ta₁₀ := (ta₈.to e₉).to e₁₀
    refine W.hideL ?_
    intro K
    refine x_cons ?_
    refine W.hideL ?_
    intro K
    refine x_expr <| m_list F.slot_list_extend F.type_list_extend <| e_local hn₁₀ mw ⟨wt, _, rfl, lw₁₀, i_cons <| e_sub <| e_local hn₁₀ rfl <| e_slice <| p_none <| p_some <| e_int fun _ => p_some <| e_unary <| e_int fun _ => o_neg fun _ => ?_⟩
    intro h₁₁ sl e₁₁ _ hsl
    have hkl : ks.length ≤ 2 := ak.length ▸ one.kids_len
    refine t_tup_rev (ta₁₀.to e₁₁) hsl (by omega) fun h₁₂ b e₁₂ _ tb => i_nil <| c_extend_tup ((lw₁₀.to e₁₁).to e₁₂) tb (by simp; omega) fun h₁₃ e₁₃ lw₁₃ => ⟨rfl, x_nil ?_⟩
    have E₁₀ : Ext None h h₁₀ := (E₈.trans e₉).at e₁₀ hf0
    have E₁₃ : Ext None h h₁₃ := ((E₁₀.trans e₁₁).trans e₁₂).at e₁₃ hw0
    have e613 : Ext (fun _ => True) h₆ h₁₃ := (e₇.mono fun _ _ => trivial).trans <| (e₈.mono fun _ _ => trivial).trans <| (e₉.of.trans (e₁₀.mono fun _ _ => trivial)).trans <| e₁₁.of.trans <| e₁₂.of.trans (e₁₃.mono fun _ _ => trivial)
    have ef : Ext (· = wt) h₁₀ h₁₃ := e₁₁.of.trans (e₁₂.of.trans e₁₃)
    have ap : RowAt h₁₃ (one.op, one.kids.length) (.ref p) := by
      refine ⟨p, u, u₂, rfl, ?_⟩
      have := (tp.to e₁₀).to ef
      rw [show (((.str one.op u :: ks : List Value).length : Int) - 1) = (one.kids.length : Int) by rw [ak.length]; simp] at this
      exact this
    refine ⟨((one.kids ++ stack).map T.size).sum, ?_, _, done ++ [(one.op, one.kids.length)], one.kids ++ stack, vf ++ [.ref p], ks ++ vw, rfl, E₁₃, ns_to hn₁₀ ef wL.symm, mf, mw, lf₁₀.to ef fw, ?_, ?_, ?_, ?_⟩
    · have := one.size_eq
      simp only [List.map_append, List.sum_append, List.map_cons, List.sum_cons]
      omega
    · exact (rows_to (rows_to af e₆) e613).snoc ap
    · simpa using lw₁₃
    · exact (terms_to ak e613).append (terms_to (terms_to aw e₆) e613)
    · rw [hr, List.flatMap_cons, T.rows_eq one]; simp
end
end Mine

end

section
open PySem PySem.W PySem.Calls PyProof.Rows
namespace Mine

section ends
variable {Y Z : Addr → Prop} {h0 h h' : Heap}
/-- all but Z stands -/
noncomputable def But (Z : Addr → Prop) (h h' : Heap) : Prop := ∀ b o, ¬ Z b → h.get? b = some o → h'.get? b = some o
theorem Ext.fins (e : Ext Y h0 h) (k : But Z h h') (hn : ∀ b, Z b → h0.get? b = Option.none) : Ext Y h0 h' :=
  have ne : ∀ b o, h0.get? b = some o → ¬ Z b := fun b o q r => by rw [hn b r] at q; cases q
  ⟨fun b o q => let ⟨o', q'⟩ := e.live b o q; ⟨o', k _ _ (ne b o q) q'⟩, fun b o n q => k _ _ (ne b o q) (e.keep b o n q), fun b vs n q => k _ _ (ne b _ q) (e.tup b vs n q)⟩
theorem But.trans {h₂ : Heap} (x : But Z h h') (y : But Z h' h₂) : But Z h h₂ := fun b o n q => y b o n (x b o n q)
theorem Ext.but (e : Ext Y h h') : But Y h h' := e.keep
theorem ns_but {L : Addr} {m : Str → Option Value} (x : h.Ns L m) (k : But Z h h') (n : ¬ Z L) : h'.Ns L m :=
  let ⟨o, es, ep, q, r⟩ := x; ⟨o, es, ep, k _ _ n q, r⟩
theorem LstAt.but {a : Addr} {vs : List Value} (x : LstAt h a vs) (k : But Z h h') (n : ¬ Z a) : LstAt h' a vs := let ⟨m, q⟩ := x; ⟨m, k _ _ n q⟩
theorem TupAt.but {a : Addr} {vs : List Value} (x : TupAt h a vs) (k : But Z h h') (n : ¬ Z a) : TupAt h' a vs := let ⟨m, q⟩ := x; ⟨m, k _ _ n q⟩
end ends

section
variable {prog : Program} {w : World} {g : Shared} {hb : Heap} {A : Around} {h : Heap} {env : Env}

/-- a tuple is put into targets -/
theorem asg_tup {elts : List Expr} {kd : Nat} {pos : Pos} {t : Addr} {vs : List Value} {Q : Unit → Heap → Prop} (hh : A.handled = none) (ht : TupAt h t vs)
    (hn : (assignEach elts env).length = vs.length)
    (k : ∀ h₁, Ext None h h₁ → W prog w g A (assignInOrder ((assignEach elts env).map (·.2)) vs) Q h₁)
    (hstar : (assignEach elts env).findIdx? (·.1) = none := by rfl) : W prog w g A (assign (.Tuple elts kd pos) env (.ref t)) Q h :=
  ⟨fun n => wpAny_assign_Tuple (s := sh g h n) hh (TupAt.isTuple ht) (by simpa using hn) hstar fun h' he => by
    exact (k h' (Ext.grown (fun b o e => he b o (fun q => by rw [q] at e; exact absurd e (by rw [show (sh g h n).heap = h from rfl, size_none]; exact nofun)) e))).go n⟩

/-- one turn of an iterator -/
theorem It.turn {it : Addr} {n : Nat} {P : Nat → Value → Prop} {S : Nat → Heap → Prop} {tgt : Expr} {i : Nat} {R : Heap → Prop} {K : Value → Heap → Prop} (I : It prog w g A it n P S) (hs : S i h) (hi : i ≤ n)
    (item : i < n → ∀ v h', P i v → S (i + 1) h' → Ext (· = it) h h' → K v h') (done : i = n → ∀ h', Heap.ExtBut it h h' → R h') :
    W prog w g A (pyNext (.ref it)) (fun r h₁ => match r with
      | none => R h₁
      | some v => W prog w g A (letOwnedTupleGo tgt (.ref it) v) (fun _ h₂ => K v h₂) h₁) h := by
  by_cases h' : i < n
  · exact I.item i h _ h' hs fun v h₁ a b c => I.own (i + 1) h₁ tgt v _ b (item h' v h₁ a b c)
  · have : i = n := Nat.le_antisymm hi (Nat.le_of_not_lt h')
    subst this
    exact I.done h _ hs fun h₁ k => done rfl h₁ k

/-- zip of two lists -/
structure ZipSt (h : Heap) (z TI TO i1 i2 l1 l2 : Addr) (vs ws : List Value) (i : Nat) : Prop where
  D : ZipApart z TI TO i1 i2 l1 l2
  z : IsZip h z TI TO .none
  TI : IsPair h TI (.ref i1) (.ref i2)
  TO : ∃ a b, IsPair h TO a b
  i1 : h.IsListIter i1 l1 i
  i2 : h.IsListIter i2 l2 i
  l1 : LstAt h l1 vs
  l2 : LstAt h l2 ws
noncomputable def ZZ (z TO i1 i2 : Addr) (b : Addr) : Prop := b = z ∨ b = TO ∨ b = i1 ∨ b = i2
theorem c_zip {l1 l2 : Addr} {vs ws : List Value} {Q : Value → Heap → Prop} (hl1 : LstAt h l1 vs) (hl2 : LstAt h l2 ws)
    (k : ∀ h₁ z TI TO i1 i2, Ext None h h₁ → (∀ b, ZZ z TO i1 i2 b → h.get? b = none) → ZipSt h₁ z TI TO i1 i2 l1 l2 vs ws 0 → Q (.ref z) h₁) : W prog w g A (call (.type "zip") [.ref l1, .ref l2]) Q h := by
  have nn : ∀ j, h.get? (h.objs.size + j) = none := fun j => by
    cases e : h.get? (h.objs.size + j) with
    | none => rfl
    | some o => exact absurd (Heap.lt_size e) (by show ¬ h.objs.size + j < h.objs.size; exact Nat.not_lt.mpr (Nat.le_add_right _ _))
  have n1 : ∀ j, l1 ≠ h.objs.size + j := fun j => ne_new hl1.some (nn j)
  have n2 : ∀ j, l2 ≠ h.objs.size + j := fun j => ne_new hl2.some (nn j)
  have n10 := n1 0
  have n20 := n2 0
  simp only [Nat.add_zero] at n10 n20
  refine ⟨fun n => call_zip_2 (s := sh g h n) (LstAt.isList hl1) (LstAt.isList hl2) fun h' hz hTI hTO h1 h2 hs hk => .mk (k h' _ _ _ _ _ (Ext.grown hk) ?_ ⟨?_, hz, hTI, ⟨_, _, hTO⟩, h1, h2, ?_, ?_⟩)⟩
  · rintro b (rfl | rfl | rfl | rfl)
    · exact nn 4
    · exact nn 3
    · exact nn 0
    · exact nn 1
  · have q : ∀ i j, i ≠ j → h.objs.size + i ≠ h.objs.size + j := fun i j hij e => hij (Nat.add_left_cancel e)
    constructor <;> first | exact n1 _ | exact n2 _ | exact n10 | exact n20 | exact (n1 _).symm | exact (n2 _).symm | exact n10.symm | exact n20.symm | exact q _ _ (by decide) | exact q 0 _ (by decide) | exact q _ 0 (by decide)
  · exact hl1.to (Ext.grown (Y := None) hk)
  · exact hl2.to (Ext.grown (Y := None) hk)
theorem zip_self {z TI TO i1 i2 l1 l2 : Addr} {vs ws : List Value} {i : Nat} {Q : Value → Heap → Prop} (hs : ZipSt h z TI TO i1 i2 l1 l2 vs ws i) (k : Q (.ref z) h) : W prog w g A (pyIter (.ref z)) Q h :=
  ⟨fun n => wpAny_pyIter_zip (s := sh g h n) hs.z (.mk k)⟩
/-- one turn of zip: the pair, given to a target of several names -/
theorem zip_turn {elts : List Expr} {kd : Nat} {pos : Pos} {z TI TO i1 i2 l1 l2 : Addr} {vs ws : List Value} {i : Nat} {R : Heap → Prop} {P : Value → Heap → Prop} (hh : A.handled = none) (hs : ZipSt h z TI TO i1 i2 l1 l2 vs ws i) (hlen : vs.length = ws.length)
    (item : ∀ x y h₁ T, vs[i]? = some x → ws[i]? = some y → But (ZZ z TO i1 i2) h h₁ → ZipSt h₁ z TI TO i1 i2 l1 l2 vs ws (i + 1) → TupAt h₁ T [x, y] → P (.ref T) h₁)
    (done : vs.length ≤ i → ∀ h₁, But (ZZ z TO i1 i2) h h₁ → R h₁) :
    W prog w g A (pyNext (.ref z)) (fun r h₁ => match r with
      | none => R h₁
      | some v => W prog w g A (letOwnedTupleGo (.Tuple elts kd pos) (.ref z) v) (fun _ h₂ => P v h₂) h₁) h := by
  obtain ⟨D, hz, hTI, ⟨a, b, hTO⟩, h1, h2, hl1, hl2⟩ := hs
  have nz : ∀ c, ¬ ZZ z TO i1 i2 c → c ≠ z ∧ c ≠ TO ∧ c ≠ i1 ∧ c ≠ i2 := fun c q => ⟨fun e => q (.inl e), fun e => q (.inr (.inl e)), fun e => q (.inr (.inr (.inl e))), fun e => q (.inr (.inr (.inr e)))⟩
  by_cases hi : i < vs.length
  · have hi' : i < ws.length := hlen ▸ hi
    refine ⟨fun n => wpAny_pyNext_zip_item (s := sh g h n) (x := vs[i]) (y := ws[i]) D hz hTI hTO h1 h2 (LstAt.isList hl1) (LstAt.isList hl2) (by simp [hi]) (by simp [hi']) fun h' hz' hTO' h1' h2' hT' hsz hk => .mk ⟨fun m => ?_⟩⟩
    have Tn : ∀ c, h.get? c ≠ none → c ≠ h.objs.size := fun c q => ne_new q (size_none h)
    refine wpAny_letOwnedTupleGo_zip (s := sh g h' m) hz' fun h'' hz'' hs'' => .mk ?_
    have e'' := hs''.extBut
    have c1 : l1 ≠ z := D.l1z
    refine item _ _ h'' _ (List.getElem?_eq_getElem hi) (List.getElem?_eq_getElem hi') (fun c o q e => ?_) ⟨D, hz'', ?_, ⟨_, _, e'' _ _ D.TOz hTO'⟩, h1'.extBut e'' D.i1z, h2'.extBut e'' D.i2z, ?_, ?_⟩ ⟨0, e'' _ _ ?_ hT'⟩
    · obtain ⟨q1, q2, q3, q4⟩ := nz c q
      exact e'' _ _ q1 (hk c o q1 q2 q3 q4 e)
    · exact e'' _ _ D.TIz (hk _ _ D.TIz D.TITO D.TIi1 D.TIi2 hTI)
    · obtain ⟨m', q⟩ := hl1; exact ⟨m', e'' _ _ D.l1z (hk _ _ D.l1z D.l1TO D.l1i1 D.l1i2 q)⟩
    · obtain ⟨m', q⟩ := hl2; exact ⟨m', e'' _ _ D.l2z (hk _ _ D.l2z D.l2TO D.l2i1 D.l2i2 q)⟩
    · exact (Tn z (by show h.get? z ≠ none; rw [hz]; exact nofun)).symm
  · refine ⟨fun n => wpAny_pyNext_zip_end (s := sh g h n) hh D hz hTI hTO h1 h2 (LstAt.isList hl1) (LstAt.isList hl2) (.inl (by simpa using hi)) fun h' hk => .mk (done (by omega) h' fun c o q e => ?_)⟩
    obtain ⟨q1, q2, q3, q4⟩ := nz c q
    exact hk c o q1 q2 q3 q4 e
/-- str compare -/
noncomputable def slt (x y : Str) : Bool := decide (x.cps.toList < y.cps.toList)
noncomputable def sne (x y : Str) : Bool := x.cps.toList != y.cps.toList
theorem o_ne_str {x y : Str} {t u : Tok} {Q : Value → Heap → Prop} (k : Q (.bool (sne x y)) h) : W prog w g A (compareOp .NotEq (.str x t) (.str y u)) Q h := ⟨fun _ => PySem.P.ne_str (.mk k)⟩
theorem o_lt_str {x y : Str} {t u : Tok} {Q : Value → Heap → Prop} (k : Q (.bool (slt x y)) h) : W prog w g A (compareOp .Lt (.str x t) (.str y u)) Q h := ⟨fun _ => PySem.P.lt_str (.mk k)⟩

/-- the cell of a row at a level -/
noncomputable def cne (i : Nat) (r s : Str × Nat) : Bool := if i = 0 then sne r.1 s.1 else r.2 != s.2
noncomputable def clt (i : Nat) (r s : Str × Nat) : Bool := if i = 0 then slt r.1 s.1 else decide (r.2 < s.2)
noncomputable def CellIs (i : Nat) (r : Str × Nat) (v : Value) : Prop := (i = 0 ∧ ∃ u, v = .str r.1 u) ∨ (i = 1 ∧ ∃ u, v = .int r.2 u)
theorem RowAt.cell {r : Str × Nat} {v : Value} (x : RowAt h r v) {i : Nat} (hi : i < 2) : ∃ a vs c, v = .ref a ∧ TupAt h a vs ∧ vs[i]? = some c ∧ CellIs i r c := by
  obtain ⟨a, u, t, rfl, p⟩ := x
  rcases i with _ | _ | i
  · exact ⟨a, _, _, rfl, p, rfl, .inl ⟨rfl, u, rfl⟩⟩
  · exact ⟨a, _, _, rfl, p, rfl, .inr ⟨rfl, t, rfl⟩⟩
  · omega
theorem o_cell_ne {i : Nat} {r s : Str × Nat} {a b : Value} {Q : Value → Heap → Prop} (x : CellIs i r a) (y : CellIs i s b) (k : Q (.bool (cne i r s)) h) : W prog w g A (compareOp .NotEq a b) Q h := by
  rcases x with ⟨rfl, u, rfl⟩ | ⟨rfl, u, rfl⟩ <;> rcases y with ⟨q, v, rfl⟩ | ⟨q, v, rfl⟩ <;> first | exact absurd q (by decide) | skip
  · exact o_ne_str k
  · refine o_ne ?_
    rw [show ((r.2 : Int) != (s.2 : Int)) = (r.2 != s.2) by rw [Bool.eq_iff_iff, bne_iff_ne, bne_iff_ne]; omega]
    exact k
theorem o_cell_lt {i : Nat} {r s : Str × Nat} {a b : Value} {Q : Value → Heap → Prop} (x : CellIs i r a) (y : CellIs i s b) (k : Q (.bool (clt i r s)) h) : W prog w g A (compareOp .Lt a b) Q h := by
  rcases x with ⟨rfl, u, rfl⟩ | ⟨rfl, u, rfl⟩ <;> rcases y with ⟨q, v, rfl⟩ | ⟨q, v, rfl⟩ <;> first | exact absurd q (by decide) | skip
  · exact o_lt_str k
  · refine o_lt ?_
    rw [show decide ((r.2 : Int) < (s.2 : Int)) = decide (r.2 < s.2) by rw [Bool.eq_iff_iff]; simp]
    exact k
noncomputable def firstDiff {α : Type} (ne lt : α → α → Bool) : List α → List α → Option Bool
  | x :: xs, y :: ys => if ne x y = true then some (lt x y) else firstDiff ne lt xs ys
  | _, _ => none
noncomputable def rowsAhead (xs ys : List (Str × Nat)) : Bool :=
  if xs.length ≠ ys.length then decide (xs.length < ys.length) else match firstDiff (cne 0) (clt 0) xs ys with
    | some b => b
    | none => match firstDiff (cne 1) (clt 1) xs ys with
      | some b => b
      | none => false
noncomputable def ahead (s t : T) : Bool := rowsAhead s.rows t.rows

theorem ahead_some {s t : T} {i : Nat} {b : Bool} (hl : s.rows.length = t.rows.length) (hi : i < 2) (hd : ∀ j, j < i → firstDiff (cne j) (clt j) s.rows t.rows = none) (h : firstDiff (cne i) (clt i) s.rows t.rows = some b) : ahead s t = b := by
  unfold ahead rowsAhead
  rw [if_neg (by simpa using hl)]
  rcases i with _ | _ | i
  · rw [h]
  · rw [hd 0 (by omega), h]
  · omega
theorem ahead_none {s t : T} (hl : s.rows.length = t.rows.length) (hd : ∀ j, j < 2 → firstDiff (cne j) (clt j) s.rows t.rows = none) : ahead s t = false := by
  unfold ahead rowsAhead
  rw [if_neg (by simpa using hl), hd 0 (by omega), hd 1 (by omega)]
theorem firstDiff_end {α : Type} {ne lt : α → α → Bool} {xs ys : List α} (h : xs = []) : firstDiff ne lt xs ys = none := by subst h; cases ys <;> rfl
theorem ZipSt.at {h h' : Heap} {z TI TO i1 i2 l1 l2 L : Addr} {m : Str → Option Value} {vs ws : List Value} {i : Nat} (x : ZipSt h z TI TO i1 i2 l1 l2 vs ws i) (e : Ext (· = L) h h') (hn : h.Ns L m) (nz : ¬ ZZ z TO i1 i2 L) (n1 : l1 ≠ L) (n2 : l2 ≠ L) : ZipSt h' z TI TO i1 i2 l1 l2 vs ws i :=
  { D := x.D, z := e.keep _ _ (fun q => nz (.inl q.symm)) x.z, TI := e.keep _ _ (fun q => by have q : TI = L := q; subst q; exact ns_ne_tup hn _ x.TI [.ref i1, .ref i2] 0 rfl) x.TI,
    TO := let ⟨a, b, q⟩ := x.TO; ⟨a, b, e.keep _ _ (fun q => nz (.inr (.inl q.symm))) q⟩, i1 := x.i1.at fun _ q => e.keep _ _ (fun q => nz (.inr (.inr (.inl q.symm)))) q,
    i2 := x.i2.at fun _ q => e.keep _ _ (fun q => nz (.inr (.inr (.inr q.symm)))) q, l1 := x.l1.to e n1, l2 := x.l2.to e n2 }

theorem ahead_ok {s t : T} {v v' : Value} {Q : Value → Heap → Prop} (B : Base w hb) (S : St hb h) (R : Rm A 2) (hs : TermAt h s v) (ht : TermAt h t v') (hzs : s.size ≤ 1000) (hz : t.size ≤ 1000)
    (k : ∀ h₁, Ext None h h₁ → Q (.bool (ahead s t)) h₁) :
    W prog w g A (call (.ref 223) [v, v']) Q h := by
  refine call_def (k := 1) [("one", v), ("other", v')] B S R rfl rfl rfl rfl (by decide) rfl rfl rfl fun h₁ L e₁ S₁ R₁ hL hn₁ => ?_
  refine W.hideL ?_
  intro K
  refine x_cons ?_
  refine W.hideL ?_
  intro K
  refine as_pair R₁.hh <| e_tup <| i_cons <| c_glob B S₁ n_row <| i_cons <| e_local hn₁ rfl <| i_nil ⟨S₁, row_ok B S₁ R₁ (hs.to e₁) hzs fun h₂ l1 vs e₂ n1 lv av => ?_⟩
  have S₂ := S₁.to e₂
  have hn₂ := ns_to hn₁ e₂
  refine i_cons <| c_glob B S₂ n_row <| i_cons <| e_local hn₂ rfl <| i_nil ⟨S₂, row_ok B S₂ R₁ (ht.to (e₁.trans e₂)) hz fun h₃ l2 ws e₃ n2 lw aw => ?_⟩
  refine i_nil ⟨Nat.le_of_ble_eq_true rfl, fun h₄ p e₄ _ tp => ⟨p, _, _, _, rfl, tp, ns_to (ns_to hn₂ e₃) e₄, fun h₅ e₅ hn₅ => ?_⟩⟩
  have l1L : l1 ≠ L := (ne_new (ns_some hn₁) n1).symm
  have l2L : l2 ≠ L := (ne_new (ns_some hn₂) n2).symm
  have hlv := av.length
  have hlw := aw.length
  rw [T.rows_len] at hlv hlw
  have lv5 : LstAt h₅ l1 vs := ((lv.to e₃).to e₄).to e₅ l1L
  have lw5 : LstAt h₅ l2 ws := (lw.to e₄).to e₅ l2L
  have e35 : Ext (· = L) h₃ h₅ := e₄.of.trans e₅
  have av5 : All2 (RowAt h₅) s.rows vs := rows_to (rows_to av e₃) e35
  have aw5 : All2 (RowAt h₅) t.rows ws := rows_to aw e35
  have E5 : Ext None h h₅ := ((((e₁.trans e₂).trans e₃).trans e₄)).at e₅ hL
  have S₅ := S.to E5
  refine W.hideL ?_
  intro K
  refine x_cons ?_
  refine W.hideL ?_
  intro K
  refine x_if <| b_cmp <| c_bi B S₅ n_len <| i_cons <| e_local hn₅ rfl <| i_nil ⟨S₅, c_len_list lv5 (by omega) fun _ => c_bi B S₅ n_len <| i_cons <| e_local hn₅ rfl <| i_nil ⟨S₅, c_len_list lw5 (by omega) fun _ => o_ne ⟨_, rfl, ?_⟩⟩⟩
  by_cases hll : vs.length = ws.length
  case neg =>
    rw [if_pos (bne_iff_ne.mpr (by omega))]
    refine W.hideL ?_
    intro K
    refine x_cons ?_
    refine W.hideL ?_
    intro K
    refine x_ret <| e_cmp <| c_bi B S₅ n_len <| i_cons <| e_local hn₅ rfl <| i_nil ⟨S₅, c_len_list lv5 (by omega) fun _ => c_bi B S₅ n_len <| i_cons <| e_local hn₅ rfl <| i_nil ⟨S₅, c_len_list lw5 (by omega) fun _ => o_lt ?_⟩⟩
    have := k _ E5
    unfold ahead rowsAhead at this
    rw [T.rows_len, T.rows_len, if_pos (by omega), show decide (s.size < t.size) = decide ((vs.length : Int) < ws.length) from decide_eq_decide.mpr (by omega)] at this
    exact this
  rw [if_neg (by rw [bne_iff_ne]; omega)]
  have hll' : s.rows.length = t.rows.length := by rw [T.rows_len, T.rows_len]; omega
  refine x_nil <| x_cons <| x_for <| e_tup <| i_cons <| e_int fun u0 => i_cons <| e_int fun u1 => i_nil ⟨Nat.le_of_ble_eq_true rfl, fun h₆ tt e₆ _ ht6 => iter_tuple ht6 fun h₇ it e₇ hit hs7 =>
    ⟨fun n h' => ∃ i m, i ≤ 2 ∧ n = 2 - i ∧ (h'.IsTupleIter it tt i ∧ TupAt h' tt [.int 0 u0, .int 1 u1]) ∧ Ext (· = L) h₅ h' ∧ h'.Ns L m ∧ m "here" = some (.ref l1) ∧ m "there" = some (.ref l2) ∧
      ∀ j, j < i → firstDiff (cne j) (clt j) s.rows t.rows = none, 2, ⟨0, _, by omega, rfl, hs7, (e₆.trans e₇).of, ns_to (ns_to hn₅ e₆) e₇, rfl, rfl, by omega⟩, ?_⟩⟩
  have itL : it ≠ L := (ne_new (ns_some (ns_to hn₅ e₆)) hit).symm
  have it5 : h₅.get? it = none := e₆.new hit
  have E5f : ∀ h', Ext (· = L) h₅ h' → Ext None h h' := fun h' e => E5.at e hL
  rintro n h' ⟨i, m, hi, rfl, hs', E, hn, mh, mt, hd⟩
  refine (It.tuple R₁.hh).turn hs' hi (fun hi v h₈ hv hs₈ e₈ => asg_local (ns_to hn e₈ itL.symm) fun h₉ e₉ hn₉ => ?_) fun hi h₈ k₈ => ?_
  · have E₉ : Ext (· = L) h₅ h₉ := (E.trans' e₈ (by rintro b rfl; exact .inr it5)).trans e₉
    have S₉ := S.to (E5f _ E₉)
    obtain ⟨uv, rfl⟩ : ∃ u, v = .int i u := by
      rcases i with _ | _ | i
      · exact ⟨u0, (Option.some.inj hv).symm⟩
      · exact ⟨u1, (Option.some.inj hv).symm⟩
      · exact absurd hi (by simp)
    have hs₉ : h₉.IsTupleIter it tt (i + 1) ∧ TupAt h₉ tt [.int 0 u0, .int 1 u1] := ⟨hs₈.1.at fun o q => e₉.keep _ _ itL q, hs₈.2.to e₉⟩
    have hi2 : i < 2 := hi
    refine W.hideL ?_
    intro K
    refine x_cons ?_
    refine W.hideL ?_
    intro K
    refine x_for <| c_bi B S₉ n_zip <| i_cons <| e_local hn₉ mh <| i_cons <| e_local hn₉ mt <| i_nil ⟨S₉, c_zip (lv5.to E₉ l1L) (lw5.to E₉ l2L) fun h₁₀ z TI TO j1 j2 e₁₀ nz hz =>
      zip_self hz ⟨fun n h' => ∃ j m, n = vs.length - j ∧ ZipSt h' z TI TO j1 j2 l1 l2 vs ws j ∧ Ext (· = L) h₅ h' ∧ h'.Ns L m ∧ m "here" = some (.ref l1) ∧ m "there" = some (.ref l2) ∧ m "level" = some (.int i uv) ∧
        (h'.IsTupleIter it tt (i + 1) ∧ TupAt h' tt [.int 0 u0, .int 1 u1]) ∧ firstDiff (cne i) (clt i) s.rows t.rows = firstDiff (cne i) (clt i) (s.rows.drop j) (t.rows.drop j), vs.length,
        ⟨0, _, rfl, hz, E₉.trans e₁₀.of, ns_to hn₉ e₁₀, mh, mt, rfl, ⟨hs₉.1.at fun o q => e₁₀.keep _ _ id q, hs₉.2.to e₁₀⟩, rfl⟩, ?_⟩⟩
    rintro n h' ⟨j, m, rfl, hz, E, hn, mh, mt, ml, hs, hf⟩
    have nz5 : ∀ b, ZZ z TO j1 j2 b → h₅.get? b = none := fun b q => E₉.new (nz b q)
    have zL : ¬ ZZ z TO j1 j2 L := fun q => by have := nz _ q; exact ns_some hn₉ this
    have zit : ¬ ZZ z TO j1 j2 it := fun q => by obtain ⟨o, e, _⟩ := hs₉.1; rw [nz _ q] at e; cases e
    have ztt : ¬ ZZ z TO j1 j2 tt := fun q => hs₉.2.some (nz _ q)
    refine zip_turn R₁.hh hz hll (fun x y h₁₁ p hx hy k₁₁ hz₁₁ hp => asg_tup R₁.hh hp rfl fun h₁₂ e₁₂ => aio_cons <| asg_local (ns_to (ns_but hn k₁₁ zL) e₁₂) fun h₁₃ e₁₃ hn₁₃ => aio_cons <| asg_local hn₁₃ fun h₁₄ e₁₄ hn₁₄ => aio_nil ?_) fun hj h₁₁ k₁₁ => ?_
    · have E₁₄ : Ext (· = L) h₅ h₁₄ := (((E.fins k₁₁ nz5).trans e₁₂.of).trans e₁₃).trans e₁₄
      obtain ⟨r, hr, ra⟩ := av5.get hx
      obtain ⟨r', hr', ra'⟩ := aw5.get hy
      obtain ⟨a, cs, c, rfl, ta, hc, ci⟩ := (ra.to E₁₄).cell hi2
      obtain ⟨a', cs', c', rfl, ta', hc', ci'⟩ := (ra'.to E₁₄).cell hi2
      have hj : j < s.rows.length := (List.getElem?_eq_some_iff.mp hr).1
      have hj' : j < t.rows.length := (List.getElem?_eq_some_iff.mp hr').1
      have hdr : s.rows.drop j = r :: s.rows.drop (j + 1) := by rw [List.drop_eq_getElem_cons hj]; congr 1; exact (List.getElem?_eq_some_iff.mp hr).2
      have hdr' : t.rows.drop j = r' :: t.rows.drop (j + 1) := by rw [List.drop_eq_getElem_cons hj']; congr 1; exact (List.getElem?_eq_some_iff.mp hr').2
      refine W.hideL ?_
      intro K
      refine x_cons ?_
      refine W.hideL ?_
      intro K
      refine x_if <| b_cmp <| e_sub <| e_local hn₁₄ rfl <| e_local hn₁₄ ml <| t_tup c ta (by omega) (by omega) (by simpa using hc) <| e_sub <| e_local hn₁₄ rfl <| e_local hn₁₄ ml <| t_tup c' ta' (by omega) (by omega) (by simpa using hc') <| o_cell_ne ci ci' ⟨_, rfl, ?_⟩
      by_cases hne : cne i r r' = true
      · rw [if_pos hne]
        refine W.hideL ?_
        intro K
        refine x_cons ?_
        refine W.hideL ?_
        intro K
        refine x_ret <| e_cmp <| e_sub <| e_local hn₁₄ rfl <| e_local hn₁₄ ml <| t_tup c ta (by omega) (by omega) (by simpa using hc) <| e_sub <| e_local hn₁₄ rfl <| e_local hn₁₄ ml <| t_tup c' ta' (by omega) (by omega) (by simpa using hc') <| o_cell_lt ci ci' ?_
        have := k _ (E5f _ E₁₄)
        rw [ahead_some hll' hi2 hd (b := clt i r r') (by rw [hf, hdr, hdr', firstDiff, if_pos hne])] at this
        exact this
      · rw [if_neg hne]
        refine x_nil (x_nil ?_)
        have n₁₁ := ns_but hn k₁₁ zL
        refine ⟨vs.length - (j + 1), by rw [← hlv, ← T.rows_len]; omega, j + 1, _, rfl, ?_, E₁₄, hn₁₄, mh, mt, ml, ?_, ?_⟩
        · exact ((hz₁₁.at e₁₂.of n₁₁ zL l1L l2L).at e₁₃ (ns_to n₁₁ e₁₂) zL l1L l2L).at e₁₄ hn₁₃ zL l1L l2L
        · have k14 : Ext (· = L) h₁₁ h₁₄ := (e₁₂.of.trans e₁₃).trans e₁₄
          exact ⟨hs.1.at fun o q => k14.keep _ _ itL (k₁₁ _ _ zit q), (hs.2.but k₁₁ ztt).to k14⟩
        · rw [hf, hdr, hdr', firstDiff, if_neg hne]
    · refine x_nil ?_
      refine ⟨2 - (i + 1), by omega, i + 1, _, by omega, rfl, ⟨hs.1.at fun o q => k₁₁ _ _ zit q, hs.2.but k₁₁ ztt⟩, E.fins k₁₁ nz5, ns_but hn k₁₁ zL, mh, mt, fun q hq => ?_⟩
      by_cases hqi : q = i
      · subst hqi
        rw [hf]
        exact firstDiff_end (List.drop_eq_nil_of_le (by rw [T.rows_len]; omega))
      · exact hd q (by omega)
  · have hi : i = 2 := hi
    subst hi
    have E₈ : Ext (· = L) h₅ h₈ := E.fin it5 k₈
    refine W.hideL ?_
    intro K
    refine x_cons ?_
    refine W.hideL ?_
    intro K
    refine x_ret <| e_bool ?_
    have := k _ (E5f _ E₈)
    rw [ahead_none hll' hd] at this
    exact this
end
end Mine

end

section
open PySem PySem.W PySem.Calls PyProof.Rows
namespace Mine

theorem cell_to {Y : Addr → Prop} {h h' : Heap} {c : Addr} {v : Option Value} (x : h.IsCell c v) (e : Ext Y h h') (n : ¬ Y c := by exact id) : h'.IsCell c v := let ⟨o, p, q⟩ := x; ⟨o, e.keep _ _ n p, q⟩
theorem cell_but {Z : Addr → Prop} {h h' : Heap} {c : Addr} {v : Option Value} (x : h.IsCell c v) (e : But Z h h') (n : ¬ Z c) : h'.IsCell c v := let ⟨o, p, q⟩ := x; ⟨o, e _ _ n p, q⟩
theorem cell_fin {it : Addr} {h h' : Heap} {c : Addr} {v : Option Value} (x : h.IsCell c v) (e : Heap.ExtBut it h h') (n : c ≠ it) : h'.IsCell c v := let ⟨o, p, q⟩ := x; ⟨o, e _ _ n p, q⟩
theorem cell_some {h : Heap} {c : Addr} {v : Option Value} (x : h.IsCell c v) : h.get? c ≠ none := let ⟨o, p, q⟩ := x; by rw [p]; exact nofun

section
variable {prog : Program} {w : World} {g : Shared} {hb : Heap} {A : Around} {h : Heap} {env : Env}

theorem call_defC {k : Nat} {name qual : Str} {params : Arguments} {body : List Stmt} {scope : Scope} {dV kV doc pm cdv ct oc : Value} {an od : Option Addr} {osl : Array (Option Value)} {f : Addr}
    {args : List Value} (binds : List (Str × Value)) {Q : Value → Heap → Prop}
    (B : Base w hb) (S : St hb h) (R : Rm A (k + 1))
    (ho : (KK w).lookup f = some ⟨oc, od, .func (fnOf name qual params body scope dV kV doc pm an cdv ct), osl⟩) (hcd : codeIn (KK w) cdv qual = true)
    (hbind : bindArgs (fnOf name qual params body scope dV kV doc pm an cdv ct) ⟨args, []⟩ = pure binds)
    (hkind : (binds.all fun y => scope.names.lookup y.1 == some .local || scope.names.lookup y.1 == some .cell) = true)
    (hco : scope.isCoroutine = false) (hgen : scope.isGenerator = false) (hk : scope.kind = .function)
    (H : ∀ h₁ L, Ext None h h₁ → St hb h₁ → Rm (A.deeper (envOfC qual scope L f cdv)) k → h.get? L = none → (∀ n c, (n, c) ∈ cellsFrom (L + 1) scope.names [] → h.get? c = none) →
      h₁.Ns L (bindL (envOfC qual scope L f cdv).kindOf binds fun _ => none) → (∀ n c, (cellsFrom (L + 1) scope.names []).lookup n = some c → h₁.IsCell c (bindC (envOfC qual scope L f cdv).kindOf binds (fun _ => none) n)) →
      W prog w g (A.deeper (envOfC qual scope L f cdv)) (execs body (envOfC qual scope L f cdv)) (fun fl h' => Q (match fl with | .ret v => v | _ => .none) h') h₁) :
    W prog w g A (call (.ref f) args []) Q h := by
  obtain ⟨p, loose, mg, mb, T⟩ := B.T
  refine ⟨fun n => wpAny_call (codeAny_call_cells (fd := fnOf name qual params body scope dV kV doc pm an cdv ct) (body := body) (binds := binds) (by have := R.depth; omega) (S.K B _ _ ho) rfl (T.nolimit.keeps S)
    (codeRec_of (S.K B) hcd) rfl hbind rfl (kindsX hkind _) (fun s₁ hc => ?_) hco hgen hk)⟩
  obtain ⟨h₀, m, rfl⟩ : ∃ h₀ m, s₁ = sh g h₀ m := by
    obtain ⟨h₀, m, e⟩ := hc.toInCall.same
    exact ⟨h₀, m, e⟩
  have e : Ext None h h₀ := Ext.grown hc.toInCall.keep
  refine (H h₀ h.objs.size e (S.to e) R.deeper (size_none _) (fun n c hm => ?_) hc.toInCall.ns fun n c q => hc.cell n c q).then fun _ _ _ x => .mk x
  have hl : h.objs.size < c := hc.above n c hm
  cases q : h.get? c with
  | none => rfl
  | some o => exact absurd (Nat.lt_trans (Heap.lt_size q) hl) (Nat.lt_irrefl _)
/-- names in cells -/
theorem e_cell {x : Str} {pos : Pos} {c : Addr} {v : Value} {Q : Value → Heap → Prop} (hc : env.cells.lookup x = some c) (hv : h.IsCell c (some v)) (k : Q v h)
    (hk : env.scope.kind = .function := by rfl) (hl : env.kindOf x = some .cell := by rfl) (hd : (x == ("__debug__" : Str)) = false := by decide) : W prog w g A (eval (.Name x pos) env) Q h :=
  ⟨fun n => wpAny_Name (wpAny_loadName_cell hk hl hc hv (.mk k)) hd⟩
theorem st_cell {x : Str} {c : Addr} {v₀ : Option Value} {v : Value} {Q : Unit → Heap → Prop} (hc : env.cells.lookup x = some c) (hv : h.IsCell c v₀)
    (k : ∀ h₁, Ext (· = c) h h₁ → h₁.IsCell c (some v) → Q () h₁)
    (hk : env.scope.kind = .function := by rfl) (hl : env.kindOf x = some .cell := by rfl) : W prog w g A (storeName env x v) Q h := by
  refine ⟨fun n => wpAny_storeName_cell hk hl hc hv fun h' hv' hs => .mk (k _ ?_ hv')⟩
  obtain ⟨o, e, d⟩ := hv
  obtain ⟨o', e', _⟩ := id hv'
  exact Ext.upd hs e (fun vs m q => by rw [q] at d; cases d) e'
theorem asg_cell {x : Str} {pos : Pos} {c : Addr} {v₀ : Option Value} {v : Value} {Q : Unit → Heap → Prop} (hc : env.cells.lookup x = some c) (hv : h.IsCell c v₀)
    (k : ∀ h₁, Ext (· = c) h h₁ → h₁.IsCell c (some v) → Q () h₁)
    (hk : env.scope.kind = .function := by rfl) (hl : env.kindOf x = some .cell := by rfl) : W prog w g A (assign (.Name x pos) env v) Q h :=
  ⟨fun _ => wpAny_assign_Name ((st_cell hc hv k hk hl).then fun _ _ _ x => .mk x)⟩

/-- enumerate of a tuple -/
noncomputable def EnumSt (h : Heap) (e it t : Addr) (vs : List Value) (i : Nat) : Prop := e ≠ it ∧ (∃ old, IsEnum h e it i old) ∧ h.IsTupleIter it t i ∧ TupAt h t vs
noncomputable def EZ (e it : Addr) (b : Addr) : Prop := b = e ∨ b = it
theorem EnumSt.tk {h h₁ : Heap} {e it t : Addr} {vs : List Value} {i : Nat} (x : EnumSt h e it t vs i) (k : But (EZ e it) h h₁) : Tk h h₁ := fun b ws n q => k _ _ (by
  obtain ⟨_, ⟨old, he⟩, ⟨o, p, c, _⟩, _⟩ := x
  rintro (rfl | rfl)
  · rw [he] at q; have := congrArg Obj.cls (Option.some.inj q); simp at this
  · rw [q] at p; rw [← Option.some.inj p] at c; simp at c) q

theorem meets_enum_tup (l : Addr) (items : Array Value) (n : Nat) :
    Meets (Builtin.«enumerate.__new__» ⟨[.type "enumerate", .ref l], []⟩) (fun _ R s => s.heap.get? l = some { cls := .type "tuple", dict := none, data := .seq items n, slots := #[] } ∧
      R (.ok (.ret (.ref (s.heap.push { cls := .type "tuple_iterator", data := .fields #[.ref l, .int 0 0] }).objs.size)))
        { s with heap := (s.heap.push { cls := .type "tuple_iterator", data := .fields #[.ref l, .int 0 0] }).push { cls := .type "enumerate", data := .fields #[.none, .bool false, .ref s.heap.objs.size, rawInt 0, .none, .none] } }) :=
  .of_wp fun prog w A R s h => by
    obtain ⟨hp, g, d, tk, os⟩ := s
    obtain ⟨hl, h⟩ := h
    have hsub := sub_enumerate
    have hL : Heap.IsTuple (Shared.heap ⟨hp, g, d, tk, os⟩) l items := ⟨_, hl, rfl, n, rfl⟩
    wp_walk using AutoSeq1.wpAny_loadPart' hl
    refine wpAny_stack_any fun st => wpAny_pure ?_
    split
    · rename_i c _ _ _ _ _
      cases (c == Value.type "enumerate") <;>
      · wp_walk using AutoSeq1.wpAny_loadPart' hl, wpAny_pyIter_tuple hL
        exact ⟨_, rfl, h⟩
    · wp_walk using AutoSeq1.wpAny_loadPart' hl, wpAny_pyIter_tuple hL
      exact ⟨_, rfl, h⟩
theorem c_enum_tup {t : Addr} {vs : List Value} {Q : Value → Heap → Prop} (ht : TupAt h t vs)
    (k : ∀ h₁ e it, Ext None h h₁ → (∀ b, EZ e it b → h.get? b = none) → EnumSt h₁ e it t vs 0 → Q (.ref e) h₁) : W prog w g A (call (.type "enumerate") [.ref t]) Q h := by
  obtain ⟨m, ho⟩ := id ht
  have hz : (h.push { cls := .type "tuple_iterator", data := .fields #[.ref t, .int 0 0] }).objs.size = h.objs.size + 1 := Heap.size_push ..
  have hne : h.objs.size + 1 ≠ h.objs.size := Nat.succ_ne_self _
  have hn : h.get? (h.objs.size + 1) = none := by
    cases q : h.get? (h.objs.size + 1) with
    | none => rfl
    | some o => exact absurd (Heap.lt_size q) (Nat.not_lt_of_le (Nat.le_succ _))
  refine ⟨fun n => callType_new F.called_enumerate (by decide) (F.typeCall_enumerate_1 _) (F.newCall_enumerate_1 _) (fun obj => F.args_object_init_2 obj _) F.entry_enumerate_new (meets_enum_tup t _ m) (s := sh g h n) ⟨ho, ?_⟩⟩
  have e0 : Ext None h ((h.push { cls := .type "tuple_iterator", data := .fields #[.ref t, .int 0 0] }).push { cls := .type "enumerate", data := .fields #[.none, .bool false, .ref h.objs.size, rawInt 0, .none, .none] }) := Ext.push.trans Ext.push
  have he : IsEnum ((h.push { cls := .type "tuple_iterator", data := .fields #[.ref t, .int 0 0] }).push { cls := .type "enumerate", data := .fields #[.none, .bool false, .ref h.objs.size, rawInt 0, .none, .none] }) (h.objs.size + 1) h.objs.size 0 .none := by
    rw [← hz]; exact Heap.get?_push_size _ rfl
  have fin := k _ (h.objs.size + 1) h.objs.size e0 (by rintro b (rfl | rfl) <;> first | exact hn | exact size_none _) ⟨hne, ⟨_, he⟩, ⟨_, Heap.get?_push_of_some _ (Heap.get?_push_size _ rfl), rfl, rfl⟩, ht.to e0⟩
  show _ ∧ _
  have hz' : ((sh g h n).heap.push { cls := .type "tuple_iterator", data := .fields #[.ref t, .int 0 0] }).objs.size = h.objs.size + 1 := hz
  rw [hz']
  exact ⟨⟨_, he, rfl⟩, .mk fin⟩

theorem nextOf_tup_item {s : Shared} {E : Value → Shared → Prop} {it t : Addr} {i : Nat} {vs : List Value} {x : Value} {Q : Value → Shared → Prop} (hit : s.heap.IsTupleIter it t i) (ht : TupAt s.heap t vs) (hx : vs[i]? = some x)
    (k : ∀ h', h'.IsTupleIter it t (i + 1) → Heap.SameBut it s.heap h' → Q x { s with heap := h' }) : wpAny (model prog w) A (Builtin.SmallTypes.nextOf (.ref it)) Q E s := by
  obtain ⟨o, ho, hc, hd⟩ := id hit
  obtain ⟨m, hm⟩ := ht
  have hx' : vs.toArray[i]? = some x := by simpa using hx
  unfold Builtin.SmallTypes.nextOf
  refine wpAny_bind (wpAny_callSpecial?_slot (name := Str.ofString "__next__") hit.typeIs F.slot_tuple_iterator_next (wpAny_call_entry F.slot_tuple_iterator_next hit.typeIs F.entry_tuple_iterator_next ?_ (F.args_tuple_iterator_next_1 _)))
  show wpAny _ _ (field (.ref it) 0 >>= _) _ _ s
  refine wpAny_bind (wpAny_field ho hd (x := .ref t) rfl ?_)
  show wpAny _ _ (if (Value.ref t == Value.none) = true then _ else _) _ _ s
  rw [if_neg (show ¬ ((Value.ref t == Value.none) = true) from Bool.false_ne_true)]
  show wpAny _ _ (field (.ref it) 1 >>= _) _ _ s
  refine wpAny_bind (wpAny_field ho hd (x := .int i 0) rfl ?_)
  show wpAny _ _ (seqItems? (.ref t) >>= _) _ _ s
  refine wpAny_bind (wpAny_seqItems hm rfl ?_)
  simp only [Int.toNat_natCast, hx']
  refine wpAny_bind (wpAny_setField ho hd (by simp) (wpAny_pure ⟨x, rfl, wpAny_pure (k _ ?_ (Heap.SameBut.update ..))⟩))
  exact ⟨_, Heap.get?_update_self _ ho (Obj.isFreed_of_fields (Obj.data_mapFields hd _)), (Obj.cls_mapFields ..).trans hc, by rw [Obj.data_mapFields hd]; simp [rawInt]⟩
theorem nextOf_tup_end {s : Shared} {E : Value → Shared → Prop} {it t : Addr} {i : Nat} {vs : List Value} {Q : Value → Shared → Prop} (hh : A.handled = none) (hit : s.heap.IsTupleIter it t i) (ht : TupAt s.heap t vs) (hx : vs.length ≤ i)
    (k : ∀ h' e, Heap.ExtBut it s.heap h' → (∃ o, h'.get? e = some o ∧ o.cls = .type "StopIteration") → E (.ref e) { s with heap := h' }) : wpAny (model prog w) A (Builtin.SmallTypes.nextOf (.ref it)) Q E s := by
  obtain ⟨o, ho, hc, hd⟩ := id hit
  obtain ⟨m, hm⟩ := ht
  have hx' : vs.toArray[i]? = none := by simpa using hx
  unfold Builtin.SmallTypes.nextOf
  refine wpAny_bind (wpAny_callSpecial?_slot (name := Str.ofString "__next__") hit.typeIs F.slot_tuple_iterator_next (wpAny_call_entry F.slot_tuple_iterator_next hit.typeIs F.entry_tuple_iterator_next ?_ (F.args_tuple_iterator_next_1 _)))
  show wpAny _ _ (field (.ref it) 0 >>= _) _ _ s
  refine wpAny_bind (wpAny_field ho hd (x := .ref t) rfl ?_)
  show wpAny _ _ (if (Value.ref t == Value.none) = true then _ else _) _ _ s
  rw [if_neg (show ¬ ((Value.ref t == Value.none) = true) from Bool.false_ne_true)]
  show wpAny _ _ (field (.ref it) 1 >>= _) _ _ s
  refine wpAny_bind (wpAny_field ho hd (x := .int i 0) rfl ?_)
  show wpAny _ _ (seqItems? (.ref t) >>= _) _ _ s
  refine wpAny_bind (wpAny_seqItems hm rfl ?_)
  simp only [Int.toNat_natCast, hx']
  refine wpAny_bind (wpAny_rule (wpAny_bind (wpAny_setField ho hd (by simp) ?_)))
  show wpAny _ _ (newExc (.type "StopIteration") [] >>= _) _ _ _
  refine wpAny_bind ?_
  simp only [newExc, newTuple]
  refine wpAny_bind (wpAny_newObj_type ?_ (by size_fits))
  refine wpAny_bind (m := firstArgMember _ _) (wpAny_of_eq (a := Value.none) (by first | rfl | (simp only [firstArgMember]; rfl)) ?_)
  refine wpAny_newObj_type ?_ (by size_fits)
  simp only [raiseNew]
  refine wpAny_bind (wpAny_handled ?_)
  first | rw [show A.in1.handled = none from hh] | rw [hh]
  exact wpAny_bind (wpAny_pure (wpAny_throw (k _ _ (((Heap.SameBut.update ..).extBut.push _).push _) ⟨_, Heap.get?_push_size _ rfl, rfl⟩)))

/-- one turn of enumerate over a tuple -/
theorem enum_turn {elts : List Expr} {kd : Nat} {pos : Pos} {e it t : Addr} {vs : List Value} {i : Nat} {R : Heap → Prop} {P : Value → Heap → Prop} (hh : A.handled = none) (hs : EnumSt h e it t vs i)
    (item : ∀ x h₁ T u, vs[i]? = some x → But (EZ e it) h h₁ → EnumSt h₁ e it t vs (i + 1) → TupAt h₁ T [.int i u, x] → P (.ref T) h₁)
    (done : vs.length ≤ i → ∀ h₁, But (EZ e it) h h₁ → R h₁) :
    W prog w g A (pyNext (.ref e)) (fun r h₁ => match r with
      | none => R h₁
      | some v => W prog w g A (letOwnedTupleGo (.Tuple elts kd pos) (.ref e) v) (fun _ h₂ => P v h₂) h₁) h := by
  obtain ⟨hne, ⟨old, he⟩, hit, ht⟩ := hs
  have te : t ≠ e := by rintro rfl; obtain ⟨m, q⟩ := ht; rw [he] at q; have := congrArg Obj.cls (Option.some.inj q); simp at this
  have ti : t ≠ it := by rintro rfl; obtain ⟨m, q⟩ := ht; obtain ⟨o, q', c, _⟩ := hit; rw [q] at q'; rw [← Option.some.inj q'] at c; simp at c
  refine ⟨fun n => ?_⟩
  have hT : (sh g h n).TypeIs (.ref e) "enumerate" := ⟨_, he, rfl⟩
  unfold pyNext
  by_cases hi : i < vs.length
  · refine wpAny_bind (wpAny_attempt (wpAny_callSpecial?_slot (name := Str.ofString "__next__") hT F.slot_enumerate_next (wpAny_call_entry F.slot_enumerate_next hT F.entry_enumerate_next ?_ (F.args_enumerate_next_1 _))))
    show wpAny _ _ (field (.ref e) 2 >>= _) _ _ _
    refine wpAny_bind (wpAny_field he rfl (x := .ref it) rfl ?_)
    refine wpAny_bind (nextOf_tup_item (s := sh g h n) (x := vs[i]) hit ht (List.getElem?_eq_getElem hi) fun h₁ hit₁ hs₁ => ?_)
    replace hs₁ : Heap.SameBut it h h₁ := hs₁
    have he₁ : IsEnum h₁ e it i old := (hs₁.2 e hne).trans he
    show wpAny _ _ (field (.ref e) 3 >>= _) _ _ (sh g h₁ n)
    refine wpAny_bind (wpAny_field he₁ rfl (x := rawInt i) rfl ?_)
    show wpAny _ _ (field (.ref e) 4 >>= _) _ _ (sh g h₁ n)
    refine wpAny_bind (wpAny_field he₁ rfl (x := .none) rfl ?_)
    show wpAny _ _ (mkInt i >>= _) _ _ (sh g h₁ n)
    refine wpAny_bind (wpAny_mkInt ?_)
    show wpAny _ _ (setField (.ref e) 3 (rawInt ((i : Int) + 1)) >>= _) _ _ (sh g h₁ (n + 1))
    refine wpAny_bind (wpAny_setField_rec (s := sh g h₁ (n + 1)) he₁ (by simp) fun h₂ he₂ hs₂ => ?_)
    replace hs₂ : Heap.SameBut e h₁ h₂ := hs₂
    replace he₂ : IsEnum h₂ e it ((i : Int) + 1) old := he₂
    show wpAny _ _ (setField (.ref e) 4 .none >>= _) _ _ (sh g h₂ (n + 1))
    refine wpAny_bind (wpAny_setField_rec (s := sh g h₂ (n + 1)) he₂ (by simp) fun h₃ he₃ hs₃ => ?_)
    replace hs₃ : Heap.SameBut e h₂ h₃ := hs₃
    replace he₃ : IsEnum h₃ e it ((i : Int) + 1) old := he₃
    show wpAny _ _ (newTuple [.int i n, vs[i]] >>= _) _ _ (sh g h₃ (n + 1))
    refine wpAny_bind (wpAny_newTuple ?_)
    have b3 : But (EZ e it) h h₃ := fun b o q x => hs₃.extBut _ _ (fun r => q (.inl r)) (hs₂.extBut _ _ (fun r => q (.inl r)) (hs₁.extBut _ _ (fun r => q (.inr r)) x))
    have hit₃ : h₃.IsTupleIter it t (i + 1) := hit₁.at fun o q => hs₃.extBut _ _ hne.symm (hs₂.extBut _ _ hne.symm q)
    have hn₃ := size_none h₃
    have e34 : Ext None h₃ (h₃.push (tupO [.int i n, vs[i]] 0)) := Ext.push
    have hT₄ : TupAt (h₃.push (tupO [.int i n, vs[i]] 0)) h₃.objs.size [.int i n, vs[i]] := ⟨0, Heap.get?_push_size _ rfl⟩
    have he₄ := e34.keep _ _ id he₃
    show wpAny _ _ _ _ _ (sh g (h₃.push (tupO [.int i n, vs[i]] 0)) (n + 1))
    generalize h₃.push (tupO [.int i n, vs[i]] 0) = h₄ at e34 hT₄ he₄
    show wpAny _ _ (Builtin.SmallTypes.ownedTupleIsFree (.ref e) >>= _) _ _ (sh g h₄ (n + 1))
    refine wpAny_bind ?_
    unfold Builtin.SmallTypes.ownedTupleIsFree
    refine wpAny_bind (wpAny_field he₄ rfl (x := .none) rfl (wpAny_pure ?_))
    simp only [if_true]
    refine wpAny_bind (wpAny_rule ?_)
    refine wpAny_bind (wpAny_field he₄ rfl (x := old) rfl ?_)
    refine wpAny_bind (wpAny_setField_rec (s := sh g h₄ (n + 1)) he₄ (by simp) fun h₅ he₅ hs₅ => ?_)
    replace hs₅ : Heap.SameBut e h₄ h₅ := hs₅
    replace he₅ : IsEnum h₅ e it ((i : Int) + 1) vs[i] := he₅
    show wpAny _ _ (Builtin.SmallTypes.ownedTupleHandOut (.ref e) (.ref h₃.objs.size) >>= _) _ _ (sh g h₅ (n + 1))
    refine wpAny_bind ?_
    unfold Builtin.SmallTypes.ownedTupleHandOut
    refine wpAny_bind (wpAny_setField_rec (s := sh g h₅ (n + 1)) he₅ (by simp) fun h₆ he₆ hs₆ => ?_)
    replace hs₆ : Heap.SameBut e h₅ h₆ := hs₆
    replace he₆ : IsEnumOut h₆ e it ((i : Int) + 1) vs[i] h₃.objs.size := he₆
    refine wpAny_setField_rec (s := sh g h₆ (n + 1)) he₆ (by simp) fun h₇ he₇ hs₇ => ?_
    replace hs₇ : Heap.SameBut e h₆ h₇ := hs₇
    replace he₇ : IsEnumOut h₇ e it ((i : Int) + 1) vs[i] h₃.objs.size := he₇
    have b47 : But (EZ e it) h₄ h₇ := fun b o q x => hs₇.extBut _ _ (fun r => q (.inl r)) (hs₆.extBut _ _ (fun r => q (.inl r)) (hs₅.extBut _ _ (fun r => q (.inl r)) x))
    have hit₇ : h₇.IsTupleIter it t (i + 1) := hit₃.at fun o q => hs₇.extBut _ _ hne.symm (hs₆.extBut _ _ hne.symm (hs₅.extBut _ _ hne.symm (e34.keep _ _ id q)))
    have b7 : But (EZ e it) h h₇ := (b3.trans fun b o _ x => e34.keep b o id x).trans b47
    have Tn : ¬ EZ e it h₃.objs.size := by
      rintro (q | q)
      · rw [q, he₃] at hn₃; cases hn₃
      · obtain ⟨o, x, _⟩ := hit₃; rw [q, x] at hn₃; cases hn₃
    refine wpAny_bind (wpAny_letGo (wpAny_pure ⟨_, rfl, wpAny_pure (.mk ⟨fun m => ?_⟩)⟩))
    refine wpAny_letOwnedTupleGo_enum (s := sh g h₇ m) he₇ fun h₈ he₈ hs₈ => .mk ?_
    have b8 : But (EZ e it) h₇ h₈ := fun b o q x => hs₈.extBut _ _ (fun r => q (.inl r)) x
    refine item _ _ _ n (List.getElem?_eq_getElem hi) (b7.trans b8) ⟨hne, ⟨_, by simpa using he₈⟩, hit₇.at fun o q => hs₈.extBut _ _ hne.symm q, (ht.but b7 fun q => q.elim te ti).but b8 fun q => q.elim te ti⟩ ((hT₄.but b47 Tn).but b8 Tn)
  · refine wpAny_bind (wpAny_attempt (wpAny_callSpecial?_slot (name := Str.ofString "__next__") hT F.slot_enumerate_next (wpAny_call_entry F.slot_enumerate_next hT F.entry_enumerate_next ?_ (F.args_enumerate_next_1 _))))
    show wpAny _ _ (field (.ref e) 2 >>= _) _ _ _
    refine wpAny_bind (wpAny_field he rfl (x := .ref it) rfl ?_)
    refine wpAny_bind (nextOf_tup_end (s := sh g h n) hh hit ht (Nat.le_of_not_lt hi) fun h' x he' hx' => ?_)
    obtain ⟨o, ho, hc⟩ := hx'
    refine wpAny_bind (wpAny_isInstance (T := "StopIteration") (b := true) ⟨o, ho, hc⟩ isSubtype_stop ?_)
    exact wpAny_pure (.mk (done (Nat.le_of_not_lt hi) _ fun b o q x => he' b o (fun r => q (.inr r)) x))
theorem enum_self {e it t : Addr} {vs : List Value} {i : Nat} {Q : Value → Heap → Prop} (hs : EnumSt h e it t vs i) (k : Q (.ref e) h) : W prog w g A (pyIter (.ref e)) Q h :=
  let ⟨_, he⟩ := hs.2.1; ⟨fun n => wpAny_pyIter_enum (s := sh g h n) he (.mk k)⟩
end
end Mine

end

section
open PySem PySem.W PySem.Calls PyProof.Rows
namespace Mine

theorem T.deep_pos (t : T) : 1 ≤ t.deep := by cases t <;> simp [T.deep] <;> omega
theorem T.kid_deep {t k : T} (h : k ∈ t.kids) : k.deep + 1 ≤ t.deep := by
  cases t <;> simp [T.kids, T.deep] at h ⊢
  · subst h; omega
  · rcases h with rfl | rfl <;> omega
theorem T.kid_size {t k : T} (h : k ∈ t.kids) : k.size + 1 ≤ t.size := by
  cases t <;> simp [T.kids, T.size] at h ⊢
  · subst h; omega
  · rcases h with rfl | rfl <;> omega

noncomputable def PartAt (d : Nat) (h : Heap) (t : T) (v : Value) : Prop := ∃ a p part ps, v = .ref a ∧ TupAt h a [.ref p, part] ∧ TermAt h t part ∧ TupAt h p ps ∧ ps.length ≤ d
theorem PartAt.tk {d : Nat} {h h₁ : Heap} {t : T} {v : Value} (x : PartAt d h t v) (e : Tk h h₁) : PartAt d h₁ t v :=
  let ⟨a, p, part, ps, q1, q2, q3, q4, q5⟩ := x; ⟨a, p, part, ps, q1, q2.tk e, q3.tk e, q4.tk e, q5⟩
theorem parts_tk {d : Nat} {h h₁ : Heap} {ts : List T} {vs : List Value} (x : All2 (PartAt d h) ts vs) (e : Tk h h₁) : All2 (PartAt d h₁) ts vs := x.imp fun _ _ q => q.tk e
theorem PartAt.to {d : Nat} {Y : Addr → Prop} {h h₁ : Heap} {t : T} {v : Value} (x : PartAt d h t v) (e : Ext Y h h₁) : PartAt d h₁ t v :=
  let ⟨a, p, part, ps, q1, q2, q3, q4, q5⟩ := x; ⟨a, p, part, ps, q1, q2.to e, q3.to e, q4.to e, q5⟩
theorem parts_to {d : Nat} {Y : Addr → Prop} {h h₁ : Heap} {ts : List T} {vs : List Value} (x : All2 (PartAt d h) ts vs) (e : Ext Y h h₁) : All2 (PartAt d h₁) ts vs := x.imp fun _ _ q => q.to e
theorem EnumSt.to {Y : Addr → Prop} {h h₁ : Heap} {e it t : Addr} {vs : List Value} {i : Nat} (x : EnumSt h e it t vs i) (q : Ext Y h h₁) (n1 : ¬ Y e := by exact id) (n2 : ¬ Y it := by exact id) : EnumSt h₁ e it t vs i :=
  ⟨x.1, let ⟨o, p⟩ := x.2.1; ⟨o, q.keep _ _ n1 p⟩, x.2.2.1.at fun _ p => q.keep _ _ n2 p, x.2.2.2.to q⟩
theorem All2.at {α β : Type} {R : α → β → Prop} {as : List α} {bs : List β} (x : All2 R as bs) {i : Nat} (hi : i < bs.length) : ∃ a b, as[i]? = some a ∧ bs[i]? = some b ∧ R a b :=
  let ⟨a, p, q⟩ := x.get (List.getElem?_eq_getElem hi); ⟨a, _, p, List.getElem?_eq_getElem hi, q⟩
theorem take_snoc {α : Type} {as : List α} {i : Nat} {a : α} (h : as[i]? = some a) : as.take (i + 1) = as.take i ++ [a] := by
  rw [List.take_add_one, h]; rfl

section
variable {prog : Program} {w : World} {g : Shared} {hb : Heap} {env : Env}

theorem T.take_len (t : T) (i : Nat) : ((t.kids.take i).flatMap T.subs).length + 1 ≤ t.size := by
  have h := t.subs_len
  rw [T.subs_eq] at h
  have e : t.kids.flatMap T.subs = (t.kids.take i).flatMap T.subs ++ (t.kids.drop i).flatMap T.subs := by rw [← List.flatMap_append, List.take_append_drop]
  rw [e] at h
  simp at h ⊢
  omega

theorem parts_ok : ∀ (d : Nat) {A : Around} {h : Heap} {t : T} {v : Value} {Q : Value → Heap → Prop} (B : Base w hb) (S : St hb h) (R : Rm A d) (ht : TermAt h t v) (hd : t.deep ≤ d) (hz : t.size ≤ 1000) (hdd : d ≤ 100)
    (k : ∀ h₁ a vs, Ext None h h₁ → h.get? a = none → LstAt h₁ a vs → All2 (PartAt d h₁) t.subs vs → Q (.ref a) h₁),
    W prog w g A (call (.ref 72) [v]) Q h := by
  intro d
  induction d with
  | zero => intro A h t v Q B S R ht hd; exact absurd t.deep_pos (by omega)
  | succ d ih =>
  intro A h t v Q B S R ht hd hz hdd k
  refine call_defC (k := d) [("t", v)] B S R rfl rfl rfl rfl rfl rfl rfl fun h₁ L e₁ S₁ R₁ hL hC hn₁ hc₁ => ?_
  have hc0 : h.get? (L + 1) = none := hC "k" (L + 1) (.head _)
  have hc₁ : h₁.IsCell (L + 1) none := hc₁ "k" (L + 1) rfl
  have cL : L + 1 ≠ L := Nat.succ_ne_self _
  -- found = [((), t)]
  refine W.hideL ?_
  intro K
  refine x_cons ?_
  refine W.hideL ?_
  intro K
  refine x_assign <| e_lst <| i_cons <| e_tup <| i_cons <| e_tup <| i_nil ⟨Nat.le_of_ble_eq_true rfl, fun h₂ p e₂ _ tp => ?_⟩
  refine i_cons <| e_local (ns_to hn₁ e₂) rfl <| i_nil ⟨Nat.le_of_ble_eq_true rfl, fun h₃ q e₃ _ tq => i_nil ⟨Nat.le_of_ble_eq_true rfl, fun h₄ f e₄ hf lf => ?_⟩⟩
  refine st_local (ns_to (ns_to (ns_to hn₁ e₂) e₃) e₄) fun h₅ e₅ hn₅ => ?_
  have fL : f ≠ L := (ne_new (ns_some (ns_to (ns_to hn₁ e₂) e₃)) hf).symm
  have fc : f ≠ L + 1 := (ne_new (cell_some (cell_to (cell_to hc₁ e₂) e₃)) hf).symm
  have hf0 : h.get? f = none := ((e₁.trans e₂).trans e₃).new hf
  have E₅ : Ext None h h₅ := (((e₁.trans e₂).trans e₃).trans e₄).at e₅ hL
  have S₅ := S.to E₅
  have lf₅ := lf.to e₅ fL
  have c₅ : h₅.IsCell (L + 1) none := cell_to (cell_to (cell_to (cell_to hc₁ e₂) e₃) e₄) e₅ cL
  have ap₅ : PartAt (d + 1) h₅ t (.ref q) := ⟨q, p, v, [], rfl, (tq.to e₄).to e₅, ht.to E₅, ((tp.to e₃).to e₄).to e₅, Nat.zero_le _⟩
  obtain ⟨a, u, ks, rfl, ta, ak⟩ := ht.view
  replace ta := ta.to E₅
  have hkl : ks.length ≤ 2 := ak.length ▸ t.kids_len
  -- for k, kid in enumerate(t[1:])
  refine W.hideL ?_
  intro K
  refine x_cons ?_
  refine W.hideL ?_
  intro K
  refine x_for <| c_bi B S₅ n_enumerate <| i_cons <| e_sub <| e_local hn₅ rfl <| e_from1 fun h₆ sl u₁ e₆ _ hsl => t_tup_from (ta.to e₆) hsl (by omega) fun h₇ tt e₇ _ ttt => i_nil ⟨?_, c_enum_tup ttt fun h₈ e it e₈ nz hes => ?_⟩
  · exact (S₅.to e₆).to e₇
  have E58 : Ext None h₅ h₈ := (e₆.trans e₇).trans e₈
  have nz5 : ∀ b, EZ e it b → h₅.get? b = none := fun b q => (e₆.trans e₇).new (nz b q)
  have nzL : ¬ EZ e it L := fun q => ns_some hn₅ (nz5 _ q)
  have nzc : ¬ EZ e it (L + 1) := fun q => cell_some c₅ (nz5 _ q)
  have nzf : ¬ EZ e it f := fun q => lf₅.some (nz5 _ q)
  refine enum_self hes ⟨fun n h' => ∃ i m vf c, i ≤ ks.length ∧ n = ks.length - i ∧ EnumSt h' e it tt ks i ∧ Ext None h h' ∧ h'.Ns L m ∧ m "found" = some (.ref f) ∧ h'.IsCell (L + 1) c ∧
    LstAt h' f vf ∧ All2 (PartAt (d + 1) h') (t :: (t.kids.take i).flatMap T.subs) vf, ks.length, ⟨0, _, _, _, Nat.zero_le _, rfl, hes, E₅.trans E58, ns_to hn₅ E58, rfl, cell_to c₅ E58, lf₅.to E58, ?_⟩, ?_⟩
  · exact .cons (ap₅.to E58) .nil
  rintro n h' ⟨i, m, vf, c, hi, rfl, hes, E, hn, mf, hc, lf, af⟩
  refine enum_turn R₁.hh hes (fun x h₉ tp u₂ hx b₉ hes₉ htp => asg_tup R₁.hh htp rfl fun h₁₀ e₁₀ => aio_cons <| asg_cell rfl (cell_to (cell_but hc b₉ nzc) e₁₀) fun h₁₁ e₁₁ hc₁₁ => aio_cons <| asg_local (ns_to (ns_to (ns_but hn b₉ nzL) e₁₀) e₁₁ cL.symm) fun h₁₂ e₁₂ hn₁₂ => aio_nil ?_) fun hj h₉ b₉ => ?_
  · have nz0 : ∀ b, EZ e it b → h.get? b = none := fun b q => E₅.new (nz5 b q)
    have E₁₂ : Ext None h h₁₂ := (((E.fins b₉ nz0).trans e₁₀).at e₁₁ hc0).at e₁₂ hL
    have S₁₂ := S.to E₁₂
    obtain ⟨kid, hk, hkid⟩ := (terms_to ak E₁₂).get hx
    have hmem : kid ∈ t.kids := List.mem_of_getElem? hk
    have hkd := T.kid_deep hmem
    have hkz := T.kid_size hmem
    have lf₁₂ : LstAt h₁₂ f vf := (((lf.but b₉ nzf).to e₁₀).to e₁₁ fc).to e₁₂ fL
    have c₁₂ : h₁₂.IsCell (L + 1) (some (.int i u₂)) := cell_to hc₁₁ e₁₂ cL
    have k₁₂ : Ext (fun b => b = L ∨ b = L + 1) h₉ h₁₂ := (e₁₀.of.trans (e₁₁.mono fun _ q => .inr q)).trans (e₁₂.mono fun _ q => .inl q)
    have hes₁₂ : EnumSt h₁₂ e it tt ks (i + 1) := hes₉.to k₁₂ (fun q => q.elim (fun q => nzL (.inl q.symm)) fun q => nzc (.inl q.symm)) (fun q => q.elim (fun q => nzL (.inr q.symm)) fun q => nzc (.inr q.symm))
    have hlen : vf.length ≤ 1000 := by have := af.length; have := t.take_len i; simp at *; omega
    have af₁₂ : All2 (PartAt (d + 1) h₁₂) (t :: (t.kids.take i).flatMap T.subs) vf := parts_tk af ((hes.tk b₉).trans k₁₂.tup)
    refine W.hideL ?_
    intro K
    refine x_cons ?_
    refine W.hideL ?_
    intro K
    refine x_expr <| m_list F.slot_list_extend F.type_list_extend <| e_local hn₁₂ mf ⟨f, vf, rfl, lf₁₂, i_cons <| e_comp [("k", L + 1)] rfl (by decide) rfl (by decide) <| c_glob B S₁₂ n_parts <| i_cons <| e_local hn₁₂ rfl <| i_nil
      ⟨S₁₂, ih B S₁₂ R₁ hkid (by omega) (by omega) (by omega) fun h₁₃ la vs₁ e₁₃ nla lla apl => iter_list lla fun h₁₄ it2 e₁₄ hit2 la2 hs2 => ⟨it2, rfl, fun D C h₁₅ e₁₅ nD nC neDC lD hnC => ?_⟩⟩⟩
    have it14 : h₁₄.get? it2 ≠ none := by obtain ⟨o, q, _⟩ := hs2.1; rw [q]; exact nofun
    have it2C : it2 ≠ C := ne_new it14 nC
    have it2D : it2 ≠ D := ne_new it14 nD
    have n13 : h₁₃.get? it2 = none := hit2
    have C13 : h₁₃.get? C = none := e₁₄.new nC
    have D13 : h₁₃.get? D = none := e₁₄.new nD
    refine ⟨fun n ys h' => ∃ j mC, j ≤ vs₁.length ∧ n = vs₁.length - j ∧ (h'.IsListIter it2 la j ∧ LstAt h' la vs₁) ∧ Ext None h₁₃ h' ∧ h'.Ns C mC ∧ All2 (PartAt (d + 1) h') (kid.subs.take j) ys, vs₁.length,
          fun ys h' => (∃ mC, h'.Ns C mC) ∧ Ext None h₁₃ h' ∧ LstAt h' D ys ∧ All2 (PartAt (d + 1) h') kid.subs ys, ⟨0, _, Nat.zero_le _, rfl, ⟨hs2.1.at fun o q => e₁₅.keep _ _ id q, hs2.2.to e₁₅⟩, e₁₄.trans e₁₅, hnC, .nil⟩,
          (It.list R₁.hh la2).self 0 _ _ ⟨hs2.1.at fun o q => e₁₅.keep _ _ id q, hs2.2.to e₁₅⟩ ⟨rfl, rfl⟩, ?_, ?_⟩
    · rintro n ys h' ⟨j, mC, hj, rfl, hs2, E13, hnC, ay⟩ lD
      refine (It.list R₁.hh la2).turn hs2 hj (fun hj v h₁₆ hv hs₁₆ e₁₆ => ?_) fun hj h₁₆ k₁₆ => ?_
      · obtain ⟨sub, hsub, ap⟩ := apl.get hv
        obtain ⟨q, pa, part, ps, rfl, tq, tpart, tps, hps⟩ := ap
        have E16 : Ext None h₁₃ h₁₆ := E13.at e₁₆ n13
        refine asg_tup R₁.hh (tq.to E16) rfl fun h₁₇ e₁₇ => aio_cons <| asg_local (ns_to (ns_to hnC e₁₆ it2C.symm) e₁₇) fun h₁₈ e₁₈ hn₁₈ => aio_cons <| asg_local hn₁₈ fun h₁₉ e₁₉ hn₁₉ => aio_nil ?_
        have E19 : Ext None h₁₃ h₁₉ := ((E16.trans e₁₇).at e₁₈ C13).at e₁₉ C13
        refine e_tup <| i_cons <| e_bin <| e_tup <| i_cons <| e_cell rfl (cell_to c₁₂ (e₁₃.trans E19)) <| i_nil ⟨Nat.le_of_ble_eq_true rfl, fun h₂₀ kt e₂₀ _ tkt => e_local (ns_to hn₁₉ e₂₀) rfl <| o_add_tup tkt (tps.to (E19.trans e₂₀)) (by simp; omega) fun h₂₁ np e₂₁ tnp => ?_⟩
        refine i_cons <| e_local (ns_to (ns_to hn₁₉ e₂₀) e₂₁) rfl <| i_nil ⟨Nat.le_of_ble_eq_true rfl, fun h₂₂ y e₂₂ _ ty => ?_⟩
        have E22 : Ext None h₁₃ h₂₂ := ((E19.trans e₂₀).trans e₂₁).trans e₂₂
        have aC : ∀ b, (b = it2 ∨ b = C) → ¬ (b = D) := fun b r q => r.elim (fun r => it2D (r.symm.trans q)) fun r => neDC (q.symm.trans r)
        have e1622 : Ext (· = C) h₁₆ h₂₂ := e₁₇.of.trans (e₁₈.trans (e₁₉.trans (e₂₀.of.trans (e₂₁.of.trans e₂₂.of))))
        have e622 : Ext (fun b => b = it2 ∨ b = C) h' h₂₂ := (e₁₆.mono fun _ => .inl).trans (e1622.mono fun _ => .inr)
        have hyl : ys.length ≤ 1000 := by have h1 := ay.length; rw [List.length_take] at h1; have h2 := kid.subs_len; omega
        refine ⟨lD.to e622 (fun q => aC _ q rfl), by omega, fun h₂₃ e₂₃ lD₂₃ => ⟨vs₁.length - (j + 1), by omega, j + 1, _, hj, rfl, ⟨hs₁₆.1.at fun o q => e₂₃.keep _ _ it2D (e1622.keep _ _ it2C q), (hs₁₆.2.to e1622 (ne_new lla.some C13)).to e₂₃ (ne_new lla.some D13)⟩,
          E22.at e₂₃ D13, ns_to (ns_to (ns_to (ns_to hn₁₉ e₂₀) e₂₁) e₂₂) e₂₃ neDC.symm, ?_⟩⟩
        rw [take_snoc hsub]
        refine (parts_to (parts_to ay e622) e₂₃).snoc ⟨y, np, part, _, rfl, ty.to e₂₃, (tpart.to E22).to e₂₃, ((tnp.to e₂₂).to e₂₃), by simp; omega⟩
      · have hj : j = vs₁.length := hj
        have hk : kid.subs.take j = kid.subs := List.take_of_length_le (by rw [apl.length]; omega)
        rw [hk] at ay
        exact ⟨⟨_, ns_fin hnC k₁₆ it2C.symm⟩, E13.fin n13 k₁₆, lD.fin k₁₆ it2D.symm, parts_tk ay (.list k₁₆ hs2.1)⟩
    · rintro ys h' ⟨⟨mC, hnC⟩, E13, lD, ay⟩
      refine ⟨⟨_, hnC⟩, fun h'' k'' => i_nil ?_⟩
      have E' : Ext None h₁₃ h'' := E13.fin C13 k''
      have E12 : Ext None h₁₂ h'' := e₁₃.trans E'
      have hyl : ys.length ≤ 1000 := by have := ay.length; have := kid.subs_len; omega
      refine c_extend_list (lf₁₂.to E12) (lD.fin k'' neDC) (by omega) fun h₂₄ e₂₄ lf₂₄ => ⟨rfl, x_nil ?_⟩
      have ef : Ext (· = f) h₁₂ h₂₄ := E12.of.trans e₂₄
      refine ⟨ks.length - (i + 1), by have := (List.getElem?_eq_some_iff.mp hx).1; omega, i + 1, _, _, _, (List.getElem?_eq_some_iff.mp hx).1, rfl, hes₁₂.to ef (fun q => nzf (.inl q.symm)) (fun q => nzf (.inr q.symm)), (E₁₂.trans E12).at e₂₄ hf0,
        ns_to hn₁₂ ef fL.symm, mf, cell_to c₁₂ ef fc.symm, lf₂₄, ?_⟩
      rw [take_snoc hk, List.flatMap_append, ← List.cons_append]
      refine (parts_to af₁₂ ef).append ?_
      simpa using parts_to (parts_tk ay (.ns k'' hnC)) e₂₄
  · have nz0 : ∀ b, EZ e it b → h.get? b = none := fun b q => E₅.new (nz5 b q)
    refine W.hideL ?_
    intro K
    refine x_cons ?_
    refine W.hideL ?_
    intro K
    refine x_ret <| e_local (ns_but hn b₉ nzL) mf ?_
    refine k _ _ _ (E.fins b₉ nz0) hf0 (lf.but b₉ nzf) ?_
    have hk : t.kids.take i = t.kids := List.take_of_length_le (by rw [ak.length]; omega)
    rw [hk] at af
    rw [T.subs_eq]
    exact parts_tk af (hes.tk b₉)
end
end Mine

end

section
open PySem PySem.W PySem.Calls PyProof.Rows
namespace Mine

/-- a step that leaves what was there at h₁, but for Y, and all tuples -/
structure Step (Y : Addr → Prop) (h₁ h h' : Heap) : Prop where
  keep : ∀ b o, h₁.get? b ≠ none → ¬ Y b → h.get? b = some o → h'.get? b = some o
  tk : Tk h h'
  live : ∀ b, h₁.get? b ≠ none → h.get? b ≠ none → h'.get? b ≠ none
theorem Step.trans {Y : Addr → Prop} {h₁ h h' h'' : Heap} (x : Step Y h₁ h h') (y : Step Y h₁ h' h'') : Step Y h₁ h h'' :=
  ⟨fun b o a n q => y.keep b o a n (x.keep b o a n q), x.tk.trans y.tk, fun b a q => y.live b a (x.live b a q)⟩
theorem Step.of {Y Z : Addr → Prop} {h₁ h h' : Heap} (x : Ext Z h h') (k : ∀ b, Z b → Y b ∨ h₁.get? b = none) : Step Y h₁ h h' :=
  ⟨fun b o a n q => x.keep b o (fun z => (k b z).elim n a) q, x.tup, fun b a q => by
    cases e : h.get? b with
    | none => exact absurd e q
    | some o => obtain ⟨o', e'⟩ := x.live b o e; rw [e']; exact nofun⟩
theorem Step.fin {Y : Addr → Prop} {h₁ h h' : Heap} {it : Addr} (x : Heap.ExtBut it h h') (t : Tk h h') (n : h₁.get? it = none) : Step Y h₁ h h' :=
  ⟨fun b o a _ q => x b o (by rintro rfl; exact a n) q, t, fun b a q => by
    cases e : h.get? b with
    | none => exact absurd e q
    | some o => rw [x b o (by rintro rfl; exact a n) e]; exact nofun⟩
theorem Step.mono {Y Z : Addr → Prop} {h₁ h h' : Heap} (x : Step Y h₁ h h') (k : ∀ b, Y b → Z b) : Step Z h₁ h h' := ⟨fun b o a n q => x.keep b o a (fun y => n (k b y)) q, x.tk, x.live⟩
theorem Ext.step {Y : Addr → Prop} {h₁ h h' : Heap} (e : Ext Y h₁ h) (s : Step Y h₁ h h') : Ext Y h₁ h' := by
  refine ⟨fun b o q => ?_, fun b o n q => s.keep b o (by rw [q]; exact nofun) n (e.keep b o n q), fun b vs n q => s.tk b vs n (e.tup b vs n q)⟩
  obtain ⟨o', q'⟩ := e.live b o q
  cases r : h'.get? b with
  | none => exact absurd r (s.live b (by rw [q]; exact nofun) (by rw [q']; exact nofun))
  | some o'' => exact ⟨o'', rfl⟩

section
variable {prog : Program} {w : World} {g : Shared} {hb : Heap} {A : Around} {h : Heap} {env : Env}

/-- a source of a loop: n items told by P -/
structure Src (prog : Program) (w : World) (g : Shared) (A : Around) (h₁ : Heap) (it : Addr) (n : Nat) (P : Nat → Value → Prop) (S : Nat → Heap → Prop) (src : Addr → Prop) : Prop where
  go : It prog w g A it n P S
  new : h₁.get? it = none
  old : ∀ b, src b → h₁.get? b ≠ none
  stay : ∀ i h h' Z, S i h → But Z h h' → Tk h h' → ¬ Z it → (∀ b, src b → ¬ Z b) → S i h'
  tk : ∀ i h h', S i h → Heap.ExtBut it h h' → Tk h h'
  live : ∀ i h, S i h → h.get? it ≠ none
  nolist : ∀ i h, S i h → ∀ vs, ¬ LstAt h it vs

theorem src_list {l : Addr} {vs : List Value} {Q : Value → Heap → Prop} (hh : A.handled = none) (hl : LstAt h l vs)
    (k : ∀ h₂ it S, Ext None h h₂ → Src prog w g A h it vs.length (fun i v => vs[i]? = some v) S (· = l) → S 0 h₂ → Q (.ref it) h₂) : W prog w g A (pyIter (.ref l)) Q h :=
  iter_list hl fun h₂ it e hn hne hs => k h₂ it (fun i h => h.IsListIter it l i ∧ LstAt h l vs) e
    { go := It.list hh hne, new := hn, old := by rintro b rfl; exact hl.some,
      stay := fun i h h' Z x b t n1 n2 => ⟨x.1.at fun o q => b _ _ n1 q, x.2.but b (n2 _ rfl)⟩, tk := fun i h h' x b => .list b x.1, live := fun i h x => let ⟨o, q, _⟩ := x.1; by rw [q]; exact nofun, nolist := fun i h x vs ⟨m, r⟩ => by obtain ⟨o, q, c, _⟩ := x.1; rw [q] at r; rw [Option.some.inj r] at c; simp at c } hs
theorem src_tup {l : Addr} {vs : List Value} {Q : Value → Heap → Prop} (hh : A.handled = none) (hl : TupAt h l vs)
    (k : ∀ h₂ it S, Ext None h h₂ → Src prog w g A h it vs.length (fun i v => vs[i]? = some v) S None → S 0 h₂ → Q (.ref it) h₂) : W prog w g A (pyIter (.ref l)) Q h :=
  iter_tuple hl fun h₂ it e hn hs => k h₂ it (fun i h => h.IsTupleIter it l i ∧ TupAt h l vs) e
    { go := It.tuple hh, new := hn, old := by rintro b ⟨⟩,
      stay := fun i h h' Z x b t n1 n2 => ⟨x.1.at fun o q => b _ _ n1 q, x.2.tk t⟩, tk := fun i h h' x b => .tuple b x.1, live := fun i h x => let ⟨o, q, _⟩ := x.1; by rw [q]; exact nofun, nolist := fun i h x vs ⟨m, r⟩ => by obtain ⟨o, q, c, _⟩ := x.1; rw [q] at r; rw [Option.some.inj r] at c; simp at c } hs

inductive NsE (h : Heap) (C : Addr) : Prop where
  | mk (m : Str → Option Value) (a : h.Ns C m)
inductive ChgC (h₁ h' h'' : Heap) (C : Addr) (src : Addr → Prop) : Prop where
  | mk (Y : Addr → Prop) (a : Ext Y h' h'') (b : ∀ b, Y b → b = C ∨ (h₁.get? b ≠ none ∧ ¬ src b))
inductive ChgX (h₁ h' h'' : Heap) (C L : Addr) (src : Addr → Prop) : Prop where
  | mk (Y : Addr → Prop) (a : Ext Y h' h'') (b : ∀ b, Y b → b = C ∨ (h₁.get? b ≠ none ∧ ¬ src b ∧ b ≠ L))
inductive ChgF (h₁ h' h'' : Heap) (src : Addr → Prop) : Prop where
  | mk (Y : Addr → Prop) (a : Ext Y h' h'') (b : ∀ b, Y b → h₁.get? b ≠ none ∧ ¬ src b)
inductive TurnC (h₁ h' h'' : Heap) (C : Addr) (src : Addr → Prop) (j : Prop) : Prop where
  | mk (a : ChgC h₁ h' h'' C src) (b : NsE h'' C) (c : j)
inductive TurnX (h₁ h' h'' : Heap) (C L : Addr) (src : Addr → Prop) (j : Prop) : Prop where
  | mk (a : ChgX h₁ h' h'' C L src) (b : NsE h'' C) (c : j)
inductive TurnF (h₁ h' h'' : Heap) (src : Addr → Prop) (j : Prop) : Prop where
  | mk (a : ChgF h₁ h' h'' src) (b : j)
inductive CompJK (prog : Program) (w : World) (g : Shared) (A : Around) (env : Env) (elt target : Expr) (scope : Scope) (cl : List (Str × Addr)) (Q : Value → Heap → Prop) (h₁ : Heap) (itv : Value) (h₂ : Heap) : Prop where
  | mk (it : Addr)
    (n : Nat)
    (P : Nat → Value → Prop)
    (S : Nat → Heap → Prop)
    (src : Addr → Prop)
    (a1 : itv = .ref it)
    (a2 : Src prog w g A h₁ it n P S src)
    (a3 : S 0 h₂)
    (a4 : Ext None h₁ h₂)
    (a5 : n ≤ 2000)
    (J : Nat → List Value → Heap → Prop)
    (a6 : J 0 [] h₁)
    (a7 : (∀ i ys h h', J i ys h → Step None h₁ h h' → J i ys h'))
    (a8 : (∀ i v ys h' C mC, i < n → P i v → J i ys h' → ys.length = i → h'.Ns C mC → h₁.get? C = none → W prog w g A (assign target (compEnvC scope cl C env) v) (fun _ h₃ => W prog w g A (eval elt (compEnvC scope cl C env)) (fun y h'' =>
        TurnC h₁ h' h'' C src (J (i + 1) (ys ++ [y]) h'')) h₃) h'))
    (a9 : (∀ ys D h', J n ys h' → ys.length = n → LstAt h' D ys → h₁.get? D = none → Q (.ref D) h'))
/-- a list comprehension over one source: J tells the items made so far -/
theorem e_compJ {elt target iter : Expr} {scope : Scope} {pos : Pos} {Q : Value → Heap → Prop} (cl : List (Str × Addr))
    (hclos : closureFor scope env = pure cl) (hcell : ∀ y ∈ scope.names, y.2 ≠ .cell) (hkind : scope.kind = .function) (hnames : ∀ y ∈ scope.names, y.2 = .local → scope.names.lookup y.1 = some .local)
    (k : W prog w g A (eval iter env) (fun x h₁ => W prog w g A (pyIter x) (fun itv h₂ => CompJK prog w g A env elt target scope cl Q h₁ itv h₂) h₁) h)
    (hs : ∀ x, foldedSetIterable iter env x = pure x := by intro _; rfl) :
    W prog w g A (eval (.ListComp elt [⟨target, iter, [], 0⟩] scope pos) env) Q h := by
  refine e_comp cl hclos hcell hkind hnames (k.mono fun x h₁ k => k.mono fun itv h₂ k => ?_) hs
  obtain ⟨it, n, P, S, src, rfl, X, s0, e₂, hn, J, j0, stab, turn, fin⟩ := k
  refine ⟨it, rfl, fun D C h₃ e₃ nD nC ne lD nsC => ?_⟩
  have itC : it ≠ C := ne_new (X.live _ _ s0) nC
  have itD : it ≠ D := ne_new (X.live _ _ s0) nD
  have C1 : h₁.get? C = Option.none := e₂.new nC
  have D1 : h₁.get? D = Option.none := e₂.new nD
  have s3 : S 0 h₃ := X.stay 0 h₂ h₃ None s0 e₃.but e₃.tup id fun _ _ => id
  refine ⟨fun m ys h' => ∃ i mC, i ≤ n ∧ m = n - i ∧ ys.length = i ∧ S i h' ∧ J i ys h' ∧ h'.Ns C mC, n, fun ys h' => ys.length = n ∧ J n ys h' ∧ LstAt h' D ys ∧ ∃ m, h'.Ns C m,
    ⟨0, _, Nat.zero_le _, rfl, rfl, s3, stab _ _ _ _ j0 (.of (e₂.trans e₃) fun _ q => q.elim), nsC⟩, X.go.self 0 _ _ s3 ⟨rfl, rfl⟩, ?_, ?_⟩
  · rintro m ys h' ⟨i, mC, hi, rfl, hl, s, j, ns⟩ lD
    refine X.go.turn s hi (fun hi v h₄ hv s₄ e₄ => ?_) fun hi h₄ k₄ => ?_
    · have j₄ := stab _ _ _ _ j (.of e₄ (by rintro b rfl; exact .inr X.new))
      refine (turn i v ys h₄ C _ hi hv j₄ hl (ns_to ns e₄ itC.symm) C1).mono fun _ h₅ q => q.mono fun y h₆ q => ?_
      obtain ⟨⟨Y, e, hY⟩, ⟨m, ns₆⟩, j₆⟩ := q
      have Yn : ∀ b, h₁.get? b = Option.none → b ≠ C → ¬ Y b := fun b q r y => (hY b y).elim r fun z => z.1 q
      have s₆ : S (i + 1) h₆ := X.stay _ _ _ Y s₄ e.but e.tup (Yn _ X.new itC) fun b sb y => (hY b y).elim (fun q => X.old b sb (q ▸ C1)) fun z => z.2 sb
      refine ⟨(lD.to e₄ itD.symm).to e (Yn _ D1 ne), by omega, fun h₇ e₇ lD₇ => ⟨n - (i + 1), by omega, i + 1, _, hi, rfl, by simp [hl], X.stay _ _ _ (· = D) s₆ e₇.but e₇.tup itD fun b sb q => X.old b sb (q ▸ D1), stab _ _ _ _ j₆ (.of e₇ (by rintro b rfl; exact .inr D1)), ns_to ns₆ e₇ ne.symm⟩⟩
    · subst hi
      exact ⟨hl, stab _ _ _ _ j (.fin k₄ (X.tk _ _ _ s k₄) X.new), lD.fin k₄ itD.symm, _, ns_fin ns k₄ itC.symm⟩
  · rintro ys h' ⟨hl, j, lD, m, ns⟩
    exact ⟨⟨m, ns⟩, fun h'' k'' => fin ys D h'' (stab _ _ _ _ j (.fin k'' (.ns k'' ns) C1)) hl (lD.fin k'' ne) D1⟩

inductive CompXK (prog : Program) (w : World) (g : Shared) (A : Around) (env : Env) (elt target : Expr) (x : Str) (scope : Scope) (cl : List (Str × Addr)) (Q : Flow → Heap → Prop) (h₁ : Heap) (itv : Value) (h₂ : Heap) : Prop where
  | mk (it : Addr)
    (n : Nat)
    (P : Nat → Value → Prop)
    (S : Nat → Heap → Prop)
    (src : Addr → Prop)
    (mL : Str → Option Value)
    (a1 : itv = .ref it)
    (a2 : Src prog w g A h₁ it n P S src)
    (a3 : S 0 h₂)
    (a4 : Ext None h₁ h₂)
    (a5 : n ≤ 2000)
    (a6 : h₁.Ns env.locals mL)
    (J : Nat → List Value → Heap → Prop)
    (a7 : J 0 [] h₁)
    (a8 : (∀ i ys h h', J i ys h → Step (· = env.locals) h₁ h h' → J i ys h'))
    (a9 : (∀ i v ys h' C mC, i < n → P i v → J i ys h' → ys.length = i → h'.Ns C mC → h₁.get? C = none → h'.Ns env.locals mL → W prog w g A (assign target (compEnvC scope cl C env) v) (fun _ h₃ => W prog w g A (eval elt (compEnvC scope cl C env)) (fun y h'' =>
        TurnX h₁ h' h'' C env.locals src (J (i + 1) (ys ++ [y]) h'')) h₃) h'))
    (a10 : (∀ ys D h', J n ys h' → ys.length = n → LstAt h' D ys → h₁.get? D = none → h'.Ns env.locals (fun y => if y = x then some (.ref D) else mL y) → Q .next h'))
/-- the same, bound to a local name at once -/
theorem x_compJ {elt target iter : Expr} {x : Str} {px : Pos} {scope : Scope} {pos spos : Pos} {Q : Flow → Heap → Prop} (cl : List (Str × Addr))
    (hsw : swapsWith (.ListComp elt [⟨target, iter, [], 0⟩] scope pos) (some (.Name x px)) spos.line env = pure true)
    (hclos : closureFor scope env = pure cl) (hcell : ∀ y ∈ scope.names, y.2 ≠ .cell) (hkind : scope.kind = .function) (hnames : ∀ y ∈ scope.names, y.2 = .local → scope.names.lookup y.1 = some .local)
    (k : W prog w g A (eval iter env) (fun x' h₁ => W prog w g A (pyIter x') (fun itv h₂ => CompXK prog w g A env elt target x scope cl Q h₁ itv h₂) h₁) h)
    (hk : env.scope.kind = .function := by rfl) (hlx : env.kindOf x = some .local := by rfl)
    (hs : ∀ x, foldedSetIterable iter env x = pure x := by intro _; rfl) :
    W prog w g A (exec (.Assign [.Name x px] (.ListComp elt [⟨target, iter, [], 0⟩] scope pos) spos) env) Q h := by
  refine x_comp cl hsw hclos hcell hkind hnames (k.mono fun x h₁ k => k.mono fun itv h₂ k => ?_) hs
  obtain ⟨it, n, P, S, src, mL, rfl, X, s0, e₂, hn, nL, J, j0, stab, turn, fin⟩ := k
  refine ⟨it, rfl, fun D C h₃ e₃ nD nC ne lD nsC => ?_⟩
  have itC : it ≠ C := ne_new (X.live _ _ s0) nC
  have itD : it ≠ D := ne_new (X.live _ _ s0) nD
  have C1 : h₁.get? C = Option.none := e₂.new nC
  have D1 : h₁.get? D = Option.none := e₂.new nD
  have LC : env.locals ≠ C := ne_new (ns_some nL) C1
  have LD : env.locals ≠ D := ne_new (ns_some nL) D1
  have Lit : env.locals ≠ it := ne_new (ns_some nL) X.new
  have s3 : S 0 h₃ := X.stay 0 h₂ h₃ None s0 e₃.but e₃.tup id fun _ _ => id
  refine ⟨fun m ys h' => ∃ i mC, i ≤ n ∧ m = n - i ∧ ys.length = i ∧ S i h' ∧ J i ys h' ∧ h'.Ns C mC ∧ h'.Ns env.locals mL, n, fun ys h' => ys.length = n ∧ J n ys h' ∧ LstAt h' D ys ∧ (∃ m, h'.Ns C m) ∧ h'.Ns env.locals mL,
    ⟨0, _, Nat.zero_le _, rfl, rfl, s3, stab _ _ _ _ j0 (.of (e₂.trans e₃) fun _ q => q.elim), nsC, ns_to nL (e₂.trans e₃)⟩, X.go.self 0 _ _ s3 ⟨rfl, rfl⟩, ?_, ?_⟩
  · rintro m ys h' ⟨i, mC, hi, rfl, hl, s, j, ns, nL'⟩ lD
    refine X.go.turn s hi (fun hi v h₄ hv s₄ e₄ => ?_) fun hi h₄ k₄ => ?_
    · have j₄ := stab _ _ _ _ j (.of e₄ (by rintro b rfl; exact .inr X.new))
      have nL4 := ns_to nL' e₄ Lit
      refine (turn i v ys h₄ C _ hi hv j₄ hl (ns_to ns e₄ itC.symm) C1 nL4).mono fun _ h₅ q => q.mono fun y h₆ q => ?_
      obtain ⟨⟨Y, e, hY⟩, ⟨m, ns₆⟩, j₆⟩ := q
      have Yn : ∀ b, h₁.get? b = Option.none → b ≠ C → ¬ Y b := fun b q r y => (hY b y).elim r fun z => z.1 q
      have s₆ : S (i + 1) h₆ := X.stay _ _ _ Y s₄ e.but e.tup (Yn _ X.new itC) fun b sb y => (hY b y).elim (fun q => X.old b sb (q ▸ C1)) fun z => z.2.1 sb
      have YL : ¬ Y env.locals := fun y => (hY _ y).elim LC fun z => z.2.2 rfl
      refine ⟨(lD.to e₄ itD.symm).to e (Yn _ D1 ne), by omega, fun h₇ e₇ lD₇ => ⟨n - (i + 1), by omega, i + 1, _, hi, rfl, by simp [hl], X.stay _ _ _ (· = D) s₆ e₇.but e₇.tup itD fun b sb q => X.old b sb (q ▸ D1), stab _ _ _ _ j₆ (.of e₇ (by rintro b rfl; exact .inr D1)), ns_to ns₆ e₇ ne.symm,
        ns_to (ns_to nL4 e YL) e₇ LD⟩⟩
    · subst hi
      exact ⟨hl, stab _ _ _ _ j (.fin k₄ (X.tk _ _ _ s k₄) X.new), lD.fin k₄ itD.symm, ⟨_, ns_fin ns k₄ itC.symm⟩, ns_fin nL' k₄ Lit⟩
  · rintro ys h' ⟨hl, j, lD, ⟨m, ns⟩, nL'⟩
    refine st_local nL' (fun h₄ e₄ n₄ => ⟨⟨_, ns_to ns e₄ LC.symm⟩, fun h'' k'' => ?_⟩) hk hlx
    exact fin ys D h'' (stab _ _ _ _ (stab _ _ _ _ j (.of e₄ fun _ => .inl)) (.fin k'' (.ns k'' (ns_to ns e₄ LC.symm)) C1)) hl ((lD.to e₄ LD.symm).fin k'' ne) D1 (ns_fin n₄ k'' LC)

inductive ForJK (prog : Program) (w : World) (g : Shared) (A : Around) (env : Env) (target : Expr) (body : List Stmt) (Q : Flow → Heap → Prop) (h₁ : Heap) (itv : Value) (h₂ : Heap) : Prop where
  | mk (it : Addr)
    (n : Nat)
    (P : Nat → Value → Prop)
    (S : Nat → Heap → Prop)
    (src : Addr → Prop)
    (a1 : itv = .ref it)
    (a2 : Src prog w g A h₁ it n P S src)
    (a3 : S 0 h₂)
    (a4 : Ext None h₁ h₂)
    (J : Nat → Heap → Prop)
    (a5 : J 0 h₁)
    (a6 : (∀ i h h', J i h → Step None h₁ h h' → J i h'))
    (a7 : (∀ i v h', i < n → P i v → J i h' → W prog w g A (assign target env v) (fun _ h₃ => W prog w g A (execs body env) (fun f h'' => match f with
        | .next | .cont => TurnF h₁ h' h'' src (J (i + 1) h'')
        | .brk => Q .next h''
        | .ret v => Q (.ret v) h'') h₃) h'))
    (a8 : (∀ h', J n h' → Q .next h'))
/-- for over one source -/
theorem x_forJ {target iter : Expr} {body : List Stmt} {pos : Pos} {Q : Flow → Heap → Prop}
    (k : W prog w g A (eval iter env) (fun x h₁ => W prog w g A (pyIter x) (fun itv h₂ => ForJK prog w g A env target body Q h₁ itv h₂) h₁) h)
    (hs : ∀ x, foldedSetIterable iter env x = pure x := by intro _; rfl) :
    W prog w g A (exec (.For target iter body [] pos) env) Q h := by
  refine x_for (k.mono fun x h₁ k => k.mono fun itv h₂ k => ?_) hs
  obtain ⟨it, n, P, S, src, rfl, X, s0, e₂, J, j0, stab, turn, fin⟩ := k
  refine ⟨fun m h' => ∃ i, i ≤ n ∧ m = n - i ∧ S i h' ∧ J i h', n, ⟨0, Nat.zero_le _, rfl, s0, stab _ _ _ j0 (.of e₂ fun _ q => q.elim)⟩, ?_⟩
  rintro m h' ⟨i, hi, rfl, s, j⟩
  refine X.go.turn s hi (fun hi v h₄ hv s₄ e₄ => ?_) fun hi h₄ k₄ => ?_
  · have j₄ := stab _ _ _ j (.of e₄ (by rintro b rfl; exact .inr X.new))
    refine (turn i v h₄ hi hv j₄).mono fun _ h₅ q => q.mono fun f h₆ q => ?_
    have go : TurnF h₁ h₄ h₆ src (J (i + 1) h₆) → ∃ m, m < n - i ∧ ∃ i, i ≤ n ∧ m = n - i ∧ S i h₆ ∧ J i h₆ := by
      rintro ⟨⟨Y, e, hY⟩, j₆⟩
      exact ⟨n - (i + 1), by omega, i + 1, hi, rfl, X.stay _ _ _ Y s₄ e.but e.tup (fun y => (hY _ y).1 X.new) (fun b sb y => (hY b y).2 sb), j₆⟩
    cases f <;> first | exact go q | exact q
  · subst hi
    exact fin h₄ (stab _ _ _ j (.fin k₄ (X.tk _ _ _ s k₄) X.new))
end
end Mine

end

section
open PySem PySem.W PySem.Calls PyProof.Rows
namespace Mine

theorem All2.map {α β γ : Type} {f : α → γ} {R : γ → β → Prop} {xs : List α} {ys : List β} (x : All2 (fun a b => R (f a) b) xs ys) : All2 R (xs.map f) ys := by
  induction x with
  | nil => exact .nil
  | cons h _ ih => exact .cons h ih
noncomputable def StrIs (o : Str) (v : Value) : Prop := ∃ u, v = .str o u
noncomputable def NatIs (n : Nat) (v : Value) : Prop := ∃ u, v = .int n u
noncomputable def KeyAt (h : Heap) (t : T) (v : Value) : Prop := ∃ a b c u os ns, v = .ref a ∧ TupAt h a [.int t.size u, .ref b, .ref c] ∧ TupAt h b os ∧ All2 StrIs (t.rows.map (·.1)) os ∧ TupAt h c ns ∧ All2 NatIs (t.rows.map (·.2)) ns
theorem KeyAt.tk {h h₁ : Heap} {t : T} {v : Value} (x : KeyAt h t v) (k : Tk h h₁) : KeyAt h₁ t v :=
  let ⟨a, b, c, u, os, ns, e, p, q, r, s, z⟩ := x; ⟨a, b, c, u, os, ns, e, p.tk k, q.tk k, r, s.tk k, z⟩

/-- the usual J: items told one by one -/
noncomputable def J2 {α : Type} (Y : Addr → Prop) (h₁ : Heap) (R : Heap → α → Value → Prop) (xs : List α) (i : Nat) (ys : List Value) (h' : Heap) : Prop := Ext Y h₁ h' ∧ All2 (R h') (xs.take i) ys
theorem J2.stab {α : Type} {Y : Addr → Prop} {h₁ : Heap} {R : Heap → α → Value → Prop} {xs : List α} (tk : ∀ h h' a v, R h a v → Tk h h' → R h' a v) : ∀ i ys h h', J2 Y h₁ R xs i ys h → Step Y h₁ h h' → J2 Y h₁ R xs i ys h' :=
  fun i ys h h' j s => ⟨j.1.step s, j.2.imp fun a v q => tk _ _ _ _ q s.tk⟩
theorem J2.zero {α : Type} {Y : Addr → Prop} {h₁ : Heap} {R : Heap → α → Value → Prop} {xs : List α} : J2 Y h₁ R xs 0 [] h₁ := ⟨.refl, .nil⟩
theorem J2.snoc {α : Type} {Y Z : Addr → Prop} {h₁ h h' : Heap} {R : Heap → α → Value → Prop} {xs : List α} {i : Nat} {ys : List Value} {x : α} {y : Value} (tk : ∀ h h' a v, R h a v → Tk h h' → R h' a v) (j : J2 Y h₁ R xs i ys h) (e : Ext Z h h') (k : ∀ b, Z b → Y b ∨ h₁.get? b = none)
    (hx : xs[i]? = some x) (r : R h' x y) : J2 Y h₁ R xs (i + 1) (ys ++ [y]) h' :=
  ⟨j.1.step (.of e k), by rw [take_snoc hx]; exact (j.2.imp fun a v q => tk _ _ _ _ q e.tup).snoc r⟩
theorem J2.all {α : Type} {Y : Addr → Prop} {h₁ h : Heap} {R : Heap → α → Value → Prop} {xs : List α} {ys : List Value} {n : Nat} (j : J2 Y h₁ R xs n ys h) (hn : xs.length ≤ n) : All2 (R h) xs ys := by
  have := j.2; rwa [List.take_of_length_le hn] at this

section
variable {prog : Program} {w : World} {g : Shared} {hb : Heap} {A : Around} {h : Heap} {env : Env}
theorem key_ok {t : T} {v : Value} {Q : Value → Heap → Prop} (B : Base w hb) (S : St hb h) (R : Rm A 20) (ht : TermAt h t v) (hd : t.deep ≤ 19) (hz : t.size ≤ 1000)
    (k : ∀ h₁ v', Ext None h h₁ → KeyAt h₁ t v' → Q v' h₁) : W prog w g A (call (.ref 77) [v]) Q h := by
  refine call_def (k := 19) [("t", v)] B S R rfl rfl rfl rfl (by decide) rfl rfl rfl fun h₁ L e₁ S₁ R₁ hL hn₁ => ?_
  refine W.hideL ?_
  intro K
  refine x_cons ?_
  refine W.hideL ?_
  intro K
  refine x_compJ [] rfl rfl (by decide) rfl (by decide) <| c_glob B S₁ n_parts <| i_cons <| e_local hn₁ rfl <| i_nil ⟨S₁, parts_ok 19 B S₁ R₁ (ht.to e₁) hd hz (by decide) fun h₂ la vs e₂ nla lla apl => src_list R₁.hh lla fun h₃ it St e₃ X s0 => ?_⟩
  have hvl : vs.length = t.size := by rw [← apl.length, T.subs_len]
  refine ⟨it, _, _, St, _, _, rfl, X, s0, e₃, by omega, ns_to hn₁ e₂, J2 (· = L) h₂ TermAt t.subs, .zero, J2.stab fun _ _ _ _ q k => q.tk k, ?_, ?_⟩
  · intro i v ys h' C mC hi hv j hl nsC nC nsL
    obtain ⟨s, hs, a, p, part, ps, rfl, ta, tpart, tps, _⟩ := apl.get hv
    refine asg_tup R₁.hh (ta.to j.1) rfl fun h₄ e₄ => aio_cons <| asg_local (ns_to nsC e₄) fun h₅ e₅ n₅ => aio_cons <| asg_local n₅ fun h₆ e₆ n₆ => aio_nil <| e_local n₆ rfl ?_
    have e46 : Ext (· = C) h' h₆ := e₄.of.trans (e₅.trans e₆)
    exact ⟨⟨_, e46, fun b q => .inl q⟩, ⟨_, n₆⟩, j.snoc (fun _ _ _ _ q k => q.tk k) e46 (by rintro b rfl; exact .inr nC) hs ((tpart.to j.1).to e46)⟩
  intro ys D h₄ j hyl lD nD nsL
  have aD := j.all (by rw [T.subs_len]; omega)
  have E₄ : Ext None h h₄ := (e₁.trans e₂).at j.1 hL
  have S₄ := S.to E₄
  refine W.hideL ?_
  intro K
  refine x_cons ?_
  refine W.hideL ?_
  intro K
  refine x_ret <| e_tup <| i_cons <| c_bi B S₄ n_len <| i_cons <| e_local nsL rfl <| i_nil ⟨S₄, c_len_list lD (by omega) fun u => ?_⟩
  -- the ops
  refine i_cons <| c_bi B S₄ n_tuple <| i_cons <| e_compJ [] rfl (by decide) rfl (by decide) <| e_local nsL rfl <| src_list R₁.hh lD fun h₅ it2 St2 e₅ X2 s2 => ?_
  refine ⟨it2, _, _, St2, _, rfl, X2, s2, e₅, by omega, J2 None h₄ (fun _ (s : T) v => StrIs s.op v) t.subs, .zero, J2.stab fun _ _ _ _ q k => q, ?_, ?_⟩
  · intro i v ys h' C mC hi hv j hl nsC nC
    obtain ⟨s, hs, at'⟩ := aD.get hv
    refine asg_local nsC fun h₆ e₆ n₆ => e_sub <| e_local n₆ rfl ?_
    obtain ⟨a, u, ks, rfl, ta, ak⟩ := ((at'.to j.1).to e₆).view
    refine e_int fun _ => t_tup (.str s.op u) ta (by decide) (by decide) rfl ?_
    exact ⟨⟨_, e₆, fun b q => .inl q⟩, ⟨_, n₆⟩, j.snoc (fun _ _ _ _ q k => q) e₆ (by rintro b rfl; exact .inr nC) hs ⟨u, rfl⟩⟩
  intro os D2 h₆ j6 hol lD2 nD2
  have S₆ := S₄.to j6.1
  have ao := j6.all (by rw [T.subs_len]; omega)
  refine i_nil ⟨S₆, c_tuple_lst lD2 (by omega) fun h₇ b e₇ nb tb => ?_⟩
  have E47 := j6.1.trans e₇
  have S₇ := S₄.to E47
  -- the numbers of kids
  refine i_cons <| c_bi B S₇ n_tuple <| i_cons <| e_compJ [] rfl (by decide) rfl (by decide) <| e_local (ns_to nsL E47) rfl <| src_list R₁.hh (lD.to E47) fun h₈ it3 St3 e₈ X3 s3 => ?_
  refine ⟨it3, _, _, St3, _, rfl, X3, s3, e₈, by omega, J2 None h₇ (fun _ (s : T) v => NatIs s.kids.length v) t.subs, .zero, J2.stab fun _ _ _ _ q k => q, ?_, ?_⟩
  · intro i v ys h' C mC hi hv j hl nsC nC
    obtain ⟨s, hs, at'⟩ := aD.get hv
    refine asg_local nsC fun h₉ e₉ n₉ => ?_
    have E79 : Ext None h₇ h₉ := j.1.at e₉ nC
    obtain ⟨a, u, ks, rfl, ta, ak⟩ := ((at'.to E47).to E79).view
    have S₉ := S₇.to E79
    refine e_bin <| c_bi B S₉ n_len <| i_cons <| e_local n₉ rfl <| i_nil ⟨S₉, c_len_tup ta (by have := ak.length; have := s.kids_len; simp; omega) fun _ => e_int fun _ => o_sub fun u' => ?_⟩
    refine ⟨⟨_, e₉, fun b q => .inl q⟩, ⟨_, n₉⟩, j.snoc (fun _ _ _ _ q k => q) e₉ (by rintro b rfl; exact .inr nC) hs ⟨u', ?_⟩⟩
    rw [ak.length]; simp
  intro ns D3 h₈ j8 hnl lD3 nD3
  have S₈ := S₇.to j8.1
  have an := j8.all (by rw [T.subs_len]; omega)
  refine i_nil ⟨S₈, c_tuple_lst lD3 (by omega) fun h₉ c e₉ nc tc => i_nil ⟨Nat.le_of_ble_eq_true rfl, fun h₁₀ a e₁₀ na ta => ?_⟩⟩
  have E710 := (j8.1.trans e₉).trans e₁₀
  refine k _ _ ((E₄.trans E47).trans E710) ⟨a, b, c, u, os, ns, rfl, ?_, tb.to E710, ?_, tc.to e₁₀, ?_⟩
  · rw [show (ys.length : Int) = (t.size : Int) by omega] at ta; exact ta
  · rw [T.rows_subs, List.map_map]; exact ao.map
  · rw [T.rows_subs, List.map_map]; exact an.map
end
end Mine

end

section
open PySem PySem.W PySem.Calls PyProof.Rows
namespace Mine

noncomputable abbrev instO (dx : Addr) : Obj := ⟨.ref 179, some dx, .plain, #[]⟩
/-- a Bank: its dict dx and what its attributes hold -/
noncomputable def BankObj (h : Heap) (x dx nd nm wt dp : Addr) : Prop := h.get? x = some (instO dx) ∧ ∃ a1 a2 a3 a4 t1 t2 t3 t4 n, h.get? dx = some (dictOf [⟨a1, .str "nodes" t1, .ref nd⟩, ⟨a2, .str "numbers" t2, .ref nm⟩, ⟨a3, .str "weights" t3, .ref wt⟩, ⟨a4, .str "depths" t4, .ref dp⟩] n)
theorem BankObj.to {Y : Addr → Prop} {h h₁ : Heap} {x dx nd nm wt dp : Addr} (b : BankObj h x dx nd nm wt dp) (e : Ext Y h h₁) (n1 : ¬ Y x := by exact id) (n2 : ¬ Y dx := by exact id) : BankObj h₁ x dx nd nm wt dp :=
  ⟨e.keep _ _ n1 b.1, let ⟨a1, a2, a3, a4, t1, t2, t3, t4, n, p⟩ := b.2; ⟨a1, a2, a3, a4, t1, t2, t3, t4, n, e.keep _ _ n2 p⟩⟩

section
variable {prog : Program} {w : World} {g : Shared} {hb : Heap} {A : Around} {h : Heap} {env : Env}

theorem kGA : findIn (KK w) (.ref 179) "__getattribute__" = some (some (.builtin "object.__getattribute__")) := by rfl
theorem kGt : findIn (KK w) (.ref 179) "__getattr__" = some none := by rfl
theorem kHD : hasDictIn (KK w) 179 = true := by rfl
theorem kSA : findIn (KK w) (.ref 179) "__setattr__" = some (some (.builtin "object.__setattr__")) := by rfl
theorem kPO : plainOver (KK w) 179 = true := by rfl
theorem k_nodes : findIn (KK w) (.ref 179) "nodes" = some none := by rfl
theorem k_numbers : findIn (KK w) (.ref 179) "numbers" = some none := by rfl
theorem k_weights : findIn (KK w) (.ref 179) "weights" = some none := by rfl
theorem k_depths : findIn (KK w) (.ref 179) "depths" = some none := by rfl
theorem f_take : findIn (KK w) (.ref 179) "take" = some (some (.ref 103)) ∧ typeIn (KK w) (.ref 103) = some (.type "function") := ⟨by rfl, by rfl⟩
theorem f_require : findIn (KK w) (.ref 179) "require" = some (some (.ref 110)) ∧ typeIn (KK w) (.ref 110) = some (.type "function") := ⟨by rfl, by rfl⟩
theorem f_put : findIn (KK w) (.ref 179) "put" = some (some (.ref 117)) ∧ typeIn (KK w) (.ref 117) = some (.type "function") := ⟨by rfl, by rfl⟩
theorem f_put_all : findIn (KK w) (.ref 179) "put_all" = some (some (.ref 122)) ∧ typeIn (KK w) (.ref 122) = some (.type "function") := ⟨by rfl, by rfl⟩
theorem f_op : findIn (KK w) (.ref 179) "op" = some (some (.ref 136)) ∧ typeIn (KK w) (.ref 136) = some (.type "function") := ⟨by rfl, by rfl⟩
theorem f_kids : findIn (KK w) (.ref 179) "kids" = some (some (.ref 143)) ∧ typeIn (KK w) (.ref 143) = some (.type "function") := ⟨by rfl, by rfl⟩
theorem f_term : findIn (KK w) (.ref 179) "term" = some (some (.ref 155)) ∧ typeIn (KK w) (.ref 155) = some (.type "function") := ⟨by rfl, by rfl⟩
theorem f_weight : findIn (KK w) (.ref 179) "weight" = some (some (.ref 162)) ∧ typeIn (KK w) (.ref 162) = some (.type "function") := ⟨by rfl, by rfl⟩
theorem f_init : findIn (KK w) (.ref 179) "__init__" = some (some (.ref 91)) ∧ typeIn (KK w) (.ref 91) = some (.type "function") := ⟨by rfl, by rfl⟩
theorem kMakes : makesIn (KK w) 179 = true := by rfl

theorem inst_at {x dx : Addr} {es : List DictEntry} {n : Nat} (h1 : h.get? x = some (instO dx)) (h2 : h.get? dx = some (dictOf es n)) : InstAt h x (instO dx) 179 (some (dictOf es n)) := ⟨h1, rfl, rfl, h2⟩
theorem e_attr {value : Expr} {attr : Str} {pos : Pos} {Q : Value → Heap → Prop} (k : W prog w g A (eval value env) (fun o h₁ => W prog w g A (getAttr o attr true) Q h₁) h)
    (he : eval (.Attribute value attr pos) env = (do
      let o ← eval value env
      standAt pos.atName
      let r ← holding [o] (getAttr o attr true)
      letTemporaryGo value o r
      pure r) := by with_unfolding_all rfl) : W prog w g A (eval (.Attribute value attr pos) env) Q h :=
  ⟨fun n => Attribute_any_ (k.then fun _ _ _ x => x.go _) he⟩
theorem g_own {x dx : Addr} {es : List DictEntry} {n : Nat} {name : Str} {v : Value} {expr : Bool} {Q : Value → Heap → Prop} (B : Base w hb) (S : St hb h) (h1 : h.get? x = some (instO dx)) (h2 : h.get? dx = some (dictOf es n))
    (ha : findIn (KK w) (.ref 179) name = some none) (hl : getL name es = some (some v)) (hv : handedIn v = true) (k : Q v h) : W prog w g A (getAttr (.ref x) name expr) Q h :=
  ⟨fun m => get_value (s := sh g h m) (S.K B) (inst_at h1 h2) kGA (findObj_own kHD ha rfl hl) hv (.mk k)⟩
/-- the attributes of a Bank -/
theorem g_nodes {x dx nd nm wt dp : Addr} {expr : Bool} {Q : Value → Heap → Prop} (B : Base w hb) (S : St hb h) (b : BankObj h x dx nd nm wt dp) (k : Q (.ref nd) h) : W prog w g A (getAttr (.ref x) "nodes" expr) Q h :=
  let ⟨h1, _, _, _, _, _, _, _, _, _, h2⟩ := b; g_own B S h1 h2 k_nodes rfl rfl k
theorem g_numbers {x dx nd nm wt dp : Addr} {expr : Bool} {Q : Value → Heap → Prop} (B : Base w hb) (S : St hb h) (b : BankObj h x dx nd nm wt dp) (k : Q (.ref nm) h) : W prog w g A (getAttr (.ref x) "numbers" expr) Q h :=
  let ⟨h1, _, _, _, _, _, _, _, _, _, h2⟩ := b; g_own B S h1 h2 k_numbers rfl rfl k
theorem g_weights {x dx nd nm wt dp : Addr} {expr : Bool} {Q : Value → Heap → Prop} (B : Base w hb) (S : St hb h) (b : BankObj h x dx nd nm wt dp) (k : Q (.ref wt) h) : W prog w g A (getAttr (.ref x) "weights" expr) Q h :=
  let ⟨h1, _, _, _, _, _, _, _, _, _, h2⟩ := b; g_own B S h1 h2 k_weights rfl rfl k
theorem g_depths {x dx nd nm wt dp : Addr} {expr : Bool} {Q : Value → Heap → Prop} (B : Base w hb) (S : St hb h) (b : BankObj h x dx nd nm wt dp) (k : Q (.ref dp) h) : W prog w g A (getAttr (.ref x) "depths" expr) Q h :=
  let ⟨h1, _, _, _, _, _, _, _, _, _, h2⟩ := b; g_own B S h1 h2 k_depths rfl rfl k
/-- a method of a Bank is called -/
theorem m_bank {name : Str} {f : Addr} {o : Expr} {apos pos : Pos} {args : List Expr} {Q : Value → Heap → Prop} (B : Base w hb)
    (hf : findIn (KK w) (.ref 179) name = some (some (.ref f)) ∧ typeIn (KK w) (.ref f) = some (.type "function")) (hkp : keepIn (KK w) (.ref f) = true)
    (hno : ∀ a1 a2 a3 a4 t1 t2 t3 t4 v1 v2 v3 v4, getL name [⟨a1, .str "nodes" t1, v1⟩, ⟨a2, .str "numbers" t2, v2⟩, ⟨a3, .str "weights" t3, v3⟩, ⟨a4, .str "depths" t4, v4⟩] = some none)
    (k : W prog w g A (eval o env) (fun ov h₁ => ∃ x dx nd nm wt dp, ov = .ref x ∧ St hb h₁ ∧ BankObj h₁ x dx nd nm wt dp ∧ W prog w g A (spliced (backTo pos (starEach args env))) (fun vs h₂ => St hb h₂ ∧ W prog w g A (call (.ref f) (.ref x :: vs)) Q h₂) h₁) h)
    (hbase : attributeBase o name env (eval o env) = eval o env := by rfl)
    (hfew : ((backTo pos (starEach args env)).all (fun x => !x.1) && (backToKw pos (keywordEach [] env)).all (fun x => x.1.isSome)
      && decide (args.length + ([] : List Keyword).length + (if ([] : List Keyword).isEmpty then 0 else 1) < 30)) = true := by rfl)
    (hline : (apos.endLine == pos.line) = true := by rfl) (hpl : (backTo pos (starEach args env)).any (·.1) = false := by rfl) :
    W prog w g A (eval (.Call (.Attribute o name apos) args [] pos) env) Q h := by
  refine ⟨fun n => ?_⟩
  rw [arm_eval_Call, hbase]
  refine wpAny_bind (k.then fun ov h₁ m q => wpAny_bind (wpAny_standAt ?_))
  obtain ⟨x, dx, nd, nm, wt, dp, rfl, S₁, ⟨h1, a1, a2, a3, a4, t1, t2, t3, t4, nn, h2⟩, q⟩ := q
  have hform : methodCallForm (args.length + ([] : List Keyword).length) (backTo pos (starEach args env)) (backToKw pos (keywordEach [] env)) = true := hfew
  have hpos : methodCallPos true o env apos pos = pure pos := by unfold methodCallPos; simp [hline]
  unfold methodCall
  rw [hform]
  refine wpAny_bind (wpAny_holding (method_fn (s := sh g h₁ m) (S₁.K B) (inst_at h1 h2) kGA kGt hf.1 hf.2 (by show (lookIn name (dictOf _ nn)).map _ = _; rw [lookIn_dict, hno]; rfl) ?_))
  exact wpAny_bind (wpAny_of_eq hpos ((callWith_any (keeps_any B hkp) q hpl).go m))

/-- self.name = value -/
theorem x_setattr {o value : Expr} {attr : Str} {pos' pos : Pos} {Q : Flow → Heap → Prop} (k : W prog w g A (eval value env) (fun v h₁ => W prog w g A (eval o env) (fun ov h₂ => W prog w g A (setAttr ov attr v) (fun _ => Q .next) h₂) h₁) h)
    (hs : swapsWith value (some (.Attribute o attr pos')) pos.line env = pure false := by rfl) : W prog w g A (exec (.Assign [.Attribute o attr pos'] value pos) env) Q h :=
  ⟨fun n => plainObj_wpAny_Assign_Attribute (k.then fun _ _ _ x => x.then fun _ _ _ x => x.then fun _ _ _ x => .mk x) hs⟩
theorem s_attr {x dx : Addr} {es : List DictEntry} {n : Nat} {name : Str} {v : Value} {Q : Unit → Heap → Prop} (B : Base w hb) (S : St hb h) (h1 : h.get? x = some (instO dx)) (h2 : h.get? dx = some (dictOf es n))
    (ha : takerIn (KK w) 179 name = some none) (hl : (getL name es).isSome = true) (hz : ∀ tk, (putL name (PyData.keyHash w.params name) (.str name tk) v es).length ≤ 1000)
    (k : ∀ h₁ hsh tk n', Ext (· = dx) h h₁ → h₁.get? dx = some (dictOf (putL name hsh (.str name tk) v es) n') → Q () h₁) : W prog w g A (setAttr (.ref x) name v) Q h := by
  refine ⟨fun m => set_plain (s := sh g h m) (S.K B) (inst_at h1 h2) kSA ?_⟩
  refine osa_open (s := sh g h (m + 1)) (S.K B) (inst_at h1 h2) kPO ha fun b => ?_
  obtain ⟨cd, hc, hd'⟩ := any_some (kHD (w := w))
  have D' : (h.update dx (Obj.putName name (PyData.keyHash w.params name) (.str name (m + 1)) v)).get? dx = some (dictOf (putL name (PyData.keyHash w.params name) (.str name (m + 1)) v es) (putN name es n)) := by
    have := Heap.get?_update_self (Obj.putName name (PyData.keyHash w.params name) (.str name (m + 1)) v) h2 (by rw [putName_dict]; rfl)
    rw [putName_dict] at this
    exact this
  refine wpAny_bind (wpAny_pure (wpAny_bind (wpAny_bind (wpAny_loadPart (s := sh g h (m + 1)) h1 (wpAny_bind ((looks_clsIn (S.K B) hc).here ?_))))))
  rw [hd']
  refine wpAny_pure (a := some dx) (wpAny_bind (wpAny_pure (wpAny_bind ?_)))
  unfold nsSet
  refine wpAny_bind (wpAny_bind (wpAny_askSetting (wpAny_pure (wpAny_bind (wpAny_mkText (wpAny_bind (wpAny_loadPart h2 ?_)))))))
  have c : (!es.toArray.any (·.key.isStr name) && es.toArray.any (·.refKey)) = false := by
    rw [← Array.any_toList, ← Array.any_toList]
    unfold getL at hl
    split at hl
    · rename_i en he
      rw [List.any_eq_true.mpr ⟨en, List.mem_of_find?_eq_some he, List.find?_some he⟩]; rfl
    · split at hl
      · cases hl
      · rename_i z; rw [Bool.not_eq_true] at z; rw [z, Bool.and_false]
  dsimp only
  rw [aRefKeyMayBeTheName_at, c]
  refine wpAny_updatePart h2 ?_
  refine wpAny_bind (wpAny_lookBehind D' (pastItsLine_dict (by rw [List.size_toArray, sizeLine_eq]; have := hz (m + 1); omega)) ?_)
  exact wpAny_pure (.mk (k _ _ _ _ (Ext.upd (Heap.SameBut.update ..) h2 (fun vs n q => by have := congrArg Obj.cls q; simp at this) D') D'))
end
end Mine

end

section
open PySem PySem.W PySem.Calls PyProof.Rows
namespace Mine

section
variable {prog : Program} {w : World} {g : Shared} {hb : Heap} {A : Around} {h : Heap} {env : Env}

theorem eqb_str_int {s : Shared} {E : Value → Shared → Prop} {a : Str} {t : Tok} {b : Int} {u : Tok} {Q : Bool → Shared → Prop} (k : Q false s) : wpAny (model prog w) A (eqBool (.str a t) (.int b u)) Q E s := by
  unfold eqBool
  try with_reducible refine wpAny_holding ?_
  show wpAny _ _ (if (Value.str a t == Value.int b u) = true then _ else _) Q E s
  rw [if_neg (show ¬ ((Value.str a t == Value.int b u) = true) from Bool.false_ne_true)]
  exact wpAny_bind (PySem.EqMixed.eq_str_int (Q := fun v s' => wpAny (model prog w) A (truthOfDropped v) Q E s') (wpAny_truthy_bool k))
theorem eqb_int_str {s : Shared} {E : Value → Shared → Prop} {a : Str} {t : Tok} {b : Int} {u : Tok} {Q : Bool → Shared → Prop} (k : Q false s) : wpAny (model prog w) A (eqBool (.int b u) (.str a t)) Q E s := by
  unfold eqBool
  try with_reducible refine wpAny_holding ?_
  show wpAny _ _ (if (Value.int b u == Value.str a t) = true then _ else _) Q E s
  rw [if_neg (show ¬ ((Value.int b u == Value.str a t) = true) from Bool.false_ne_true)]
  exact wpAny_bind (PySem.EqMixed.eq_int_str (Q := fun v s' => wpAny (model prog w) A (truthOfDropped v) Q E s') (wpAny_truthy_bool k))

/-- keys that are strs or ints -/
noncomputable abbrev Mix := Str ⊕ Int
noncomputable def mixIs : Mix → Value → Bool
  | .inl x, v => Value.isStrOf x v
  | .inr i, v => Value.isInt i v
theorem mix_str {x : Str} {v : Value} (q : mixIs (.inl x) v = true) : ∃ t, v = .str x t := Value.isStrOf_shape q
theorem mix_int {i : Int} {v : Value} (q : mixIs (.inr i) v = true) : ∃ t, v = .int i t := Value.isInt_shape q
noncomputable def mixKind (prog : Program) (w : World) : KeyKind prog w Mix where
  is := mixIs
  hash := fun k => match k with | .inl x => (strKind prog w).hash x | .inr i => (intKind prog w).hash i
  inj := fun v a b h1 h2 => by
    rcases a with a | a <;> rcases b with b | b
    · exact congrArg _ ((strKind prog w).inj v a b h1 h2)
    · obtain ⟨t, rfl⟩ := mix_str h1; obtain ⟨u, q⟩ := mix_int h2; cases q
    · obtain ⟨t, rfl⟩ := mix_int h1; obtain ⟨u, q⟩ := mix_str h2; cases q
    · exact congrArg _ ((intKind prog w).inj v a b h1 h2)
  byValue := fun k v h => by
    rcases k with a | a
    · exact (strKind prog w).byValue a v h
    · exact (intKind prog w).byValue a v h
  pyHash := fun {A E s k v Q} hv hq => by
    rcases k with a | a
    · exact (strKind prog w).pyHash hv hq
    · exact (intKind prog w).pyHash hv hq
  eqBool := fun {A E s a b u v Q} h1 h2 hq => by
    rcases a with a | a <;> rcases b with b | b
    · exact (strKind prog w).eqBool h1 h2 (by rwa [show decide (a = b) = decide ((Sum.inl a : Mix) = Sum.inl b) from decide_eq_decide.mpr (by simp)])
    · obtain ⟨t, rfl⟩ := mix_str h1; obtain ⟨u, rfl⟩ := mix_int h2
      exact eqb_str_int (by rwa [show decide ((Sum.inl a : Mix) = Sum.inr b) = false from decide_eq_false (by simp)] at hq)
    · obtain ⟨t, rfl⟩ := mix_int h1; obtain ⟨u, rfl⟩ := mix_str h2
      exact eqb_int_str (by rwa [show decide ((Sum.inr a : Mix) = Sum.inl b) = false from decide_eq_false (by simp)] at hq)
    · exact (intKind prog w).eqBool h1 h2 (by rwa [show decide (a = b) = decide ((Sum.inr a : Mix) = Sum.inr b) from decide_eq_decide.mpr (by simp)])
  «strs» := fun k x t v h => by
    rcases k with a | a
    · exact (strKind prog w).«strs» a x t v h
    · obtain ⟨u, q⟩ := mix_int h; cases q

theorem mix_i {i : Int} {t : Tok} : (mixKind prog w).is (.inr i) (.int i t) = true := by
  have e : (mixKind prog w).is = mixIs := rfl
  rw [e]; simp [mixIs, Value.isInt]
theorem mix_s {x : Str} {t : Tok} : (mixKind prog w).is (.inl x) (.str x t) = true := by
  have e : (mixKind prog w).is = mixIs := rfl
  rw [e]; simp [mixIs, Value.isStrOf]
/-- an empty dict -/
theorem e_dict0 {pos : Pos} {Q : Value → Heap → Prop} (B : Base w hb) (S : St hb h) (k : ∀ h₁ d, Ext None h h₁ → h.get? d = none → (d == sysModules) = false → h₁.get? d = some { cls := .type "dict", data := .dict #[] } → Q (.ref d) h₁) : W prog w g A (eval (.Dict [] [] pos) env) Q h := by
  obtain ⟨p, loose, mg, mb, T⟩ := B.T
  have low := modules_low (T.nolimit.keeps S)
  exact ⟨fun n => wpAny_Dict_empty (s := sh g h n) (.mk (k _ _ Ext.push (size_none _) (by rw [beq_eq_false_iff_ne]; exact (Nat.ne_of_lt low).symm) (Heap.get?_push_size _ rfl)))⟩

/-- the dict from nodes to numbers -/
noncomputable def NumAt (prog : Program) (w : World) (h : Heap) (d : Addr) (ks : List (List Mix)) : Prop :=
  (d == sysModules) = false ∧ ∃ o es ep, ∃ xs : List (List Mix × Addr × Value), h.get? d = some o ∧ o.ExactDict ∧ o.data = .dict es ep ∧ es.toList = xs.map (entryOfKey (tupleKind (mixKind prog w))) ∧ xs.map (·.1) = ks ∧ ks.Nodup ∧
    (∀ x ∈ xs, ∃ vs, TupAt h x.2.1 vs ∧ ItemsAre (mixKind prog w) x.1 vs) ∧ ∀ (i : Nat) (x : List Mix × Addr × Value), xs[i]? = some x → ∃ u, x.2.2 = Value.int i u
theorem NumAt.to {Y : Addr → Prop} {h₁ : Heap} {d : Addr} {ks : List (List Mix)} (x : NumAt prog w h d ks) (e : Ext Y h h₁) (n : ¬ Y d := by exact id) : NumAt prog w h₁ d ks :=
  let ⟨a, o, es, ep, xs, p, q, r, s, t, u, v, z⟩ := x; ⟨a, o, es, ep, xs, e.keep _ _ n p, q, r, s, t, u, fun y hy => let ⟨vs, b, c⟩ := v y hy; ⟨vs, b.to e, c⟩, z⟩
theorem NumAt.new {d : Addr} (hd : (d == sysModules) = false) (x : h.get? d = some { cls := .type "dict", data := .dict #[] }) : NumAt prog w h d [] :=
  ⟨hd, _, #[], _, [], x, ⟨rfl, rfl, rfl⟩, rfl, rfl, rfl, .nil, by simp, by simp⟩
theorem NumAt.some {d : Addr} {ks : List (List Mix)} (x : NumAt prog w h d ks) : h.get? d ≠ none := by obtain ⟨_, o, _, _, _, p, _⟩ := x; rw [p]; exact nofun
theorem NumAt.notTup {d : Addr} {ks : List (List Mix)} (x : NumAt prog w h d ks) : ∃ o, h.get? d = Option.some o ∧ o.cls = .type "dict" := by obtain ⟨_, o, _, _, _, p, q, _⟩ := x; exact ⟨o, p, q.1⟩
theorem tupKey {a : Addr} {ks : List Mix} {vs : List Value} (x : TupAt h a vs) (i : ItemsAre (mixKind prog w) ks vs) : (tupleKind (mixKind prog w)).is h ks a := let ⟨n, p⟩ := x; ⟨_, _, _, p, rfl, rfl, i⟩
theorem NumAt.dict {d : Addr} {ks : List (List Mix)} (x : NumAt prog w h d ks) : ∃ xs : List (List Mix × Addr × Value), h.DictOfH (tupleKind (mixKind prog w)) d xs ∧ xs.map (·.1) = ks ∧ ks.Nodup ∧ (∀ x ∈ xs, ∃ vs, TupAt h x.2.1 vs ∧ ItemsAre (mixKind prog w) x.1 vs) ∧ ∀ (i : Nat) (x : List Mix × Addr × Value), xs[i]? = Option.some x → ∃ u, x.2.2 = Value.int i u := by
  obtain ⟨a, o, es, ep, xs, p, q, r, s, rfl, u, v, z⟩ := x
  exact ⟨xs, ⟨o, es, ep, p, q, r, s, fun y hy => let ⟨vs, b, c⟩ := v y hy; tupKey b c, u⟩, rfl, u, v, z⟩
theorem atKey_none {xs : List (List Mix × Addr × Value)} {k : List Mix} (n : k ∉ xs.map (·.1)) : atKey xs k = none := atKey_none_of_get fun j p q => n (List.mem_map.mpr ⟨_, List.mem_of_getElem? q, rfl⟩)
theorem atKey_some {xs : List (List Mix × Addr × Value)} {k : List Mix} {i : Nat} (nd : (xs.map (·.1)).Nodup) (n : (xs.map (·.1))[i]? = Option.some k) : ∃ p, xs[i]? = Option.some (k, p) ∧ atKey xs k = Option.some p := by
  rw [List.getElem?_map] at n
  cases q : xs[i]? with
  | none => rw [q] at n; cases n
  | some x =>
    obtain ⟨k', p⟩ := x
    rw [q] at n
    cases n
    exact ⟨p, rfl, atKey_of_get nd q⟩
/-- is a node there -/
theorem o_in_num {d a : Addr} {ks : List (List Mix)} {k : List Mix} {vs : List Value} {q : Bool} {Q : Value → Heap → Prop} (x : NumAt prog w h d ks) (ta : TupAt h a vs) (i : ItemsAre (mixKind prog w) k vs) (hu : A.units + 1 < cLine)
    (hq : q = true ↔ k ∈ ks) (kq : Q (.bool q) h) : W prog w g A (compareOp .In (.ref a) (.ref d)) Q h := by
  obtain ⟨xs, D, rfl, nd, _, _⟩ := x.dict
  refine ⟨fun n => wpAny_in_heap (s := sh g h n) (tupleKind_room_in1 hu) (tupKey ta i) x.1 D ?_⟩
  have e : (atKey xs k).isSome = q := by
    cases q with
    | true =>
      obtain ⟨j, hj⟩ := List.mem_iff_getElem?.mp (hq.mp rfl)
      obtain ⟨p, _, e⟩ := atKey_some nd hj
      rw [e]; rfl
    | false => rw [atKey_none fun m => Bool.false_ne_true (hq.mpr m)]; rfl
  rw [e]
  exact .mk kq
/-- its number -/
theorem t_num {value slice : Expr} {d a : Addr} {ks : List (List Mix)} {k : List Mix} {vs : List Value} {j : Nat} {Q : Value → Heap → Prop} (x : NumAt prog w h d ks) (ta : TupAt h a vs) (i : ItemsAre (mixKind prog w) k vs) (hu : A.units + 1 < cLine) (hj : ks[j]? = some k)
    (kq : ∀ u, Q (.int j u) h)
    (hs : subscripted slice false (.ref d) (.ref a) = operate [.ref d, .ref a] (getItem (.ref d) (.ref a)) := by with_unfolding_all rfl) : W prog w g A (subscriptTail value slice (.ref d) (.ref a)) Q h := by
  obtain ⟨xs, D, rfl, nd, _, val⟩ := x.dict
  obtain ⟨p, hp, e⟩ := atKey_some nd hj
  obtain ⟨u, hu'⟩ := val _ _ hp
  refine ⟨fun n => tail_any (s := sh g h n) D.typeIs slot_dict_getitem.lookup (wpAny_getItem_heap (s := sh g h n) (tupleKind_room_in1 hu) (tupKey ta i) D e ?_) hs⟩
  rw [show p.2 = .int j u from hu']
  exact .mk (kq u)
/-- a new node gets the next number -/
theorem s_num {d a : Addr} {ks : List (List Mix)} {k : List Mix} {vs : List Value} {u : Tok} {Q : Unit → Heap → Prop} (x : NumAt prog w h d ks) (ta : TupAt h a vs) (i : ItemsAre (mixKind prog w) k vs) (hu : A.units + 1 < cLine) (hn : k ∉ ks) (hz : ks.length ≤ 9000)
    (kq : ∀ h₁, Ext (· = d) h h₁ → NumAt prog w h₁ d (ks ++ [k]) → Q () h₁) : W prog w g A (setItem (.ref d) (.ref a) (.int ks.length u)) Q h := by
  obtain ⟨o', ho', hc'⟩ := x.notTup
  obtain ⟨xs, D, rfl, nd, tups, val⟩ := x.dict
  refine ⟨fun n => wpAny_setItem_heap (s := sh g h n) (tupleKind_room_in1 hu) (tupKey ta i) D (fun h' D' hs => .mk ?_) (by rw [sizeLine_eq]; simp at hz; omega)⟩
  rw [storedH_new (atKey_none hn)] at D'
  obtain ⟨o, es, ep, p, q, r, s, _, nd'⟩ := D'
  have e : Ext (· = d) h h' := Ext.upd hs ho' (fun vs n q => by rw [q] at hc'; simp at hc') p
  refine kq h' e ⟨x.1, o, es, ep, xs ++ [(k, a, .int (xs.map (·.1)).length u)], p, q, r, s, by simp, ?_, ?_, ?_⟩
  · simpa using nd'
  · intro y hy
    rcases List.mem_append.mp hy with hy | hy
    · obtain ⟨vs, b, c⟩ := tups y hy
      exact ⟨vs, b.to e, c⟩
    · rw [List.mem_singleton] at hy; subst hy; exact ⟨vs, ta.to e, i⟩
  · intro j y hj
    rw [List.getElem?_append] at hj
    split at hj
    · exact val j y hj
    · rename_i hl
      have : j - xs.length = 0 := by
        by_cases q : j - xs.length = 0
        · exact q
        · rw [List.getElem?_eq_none (by simp; omega)] at hj; cases hj
      rw [this] at hj
      cases hj
      have e : j = xs.length := by omega
      exact ⟨u, by rw [e]; simp⟩
end
end Mine

end

section
open PySem PySem.W PySem.Calls PyProof.Rows
namespace Mine

section
variable {prog : Program} {w : World} {g : Shared} {hb : Heap} {A : Around} {h : Heap} {env : Env}

/-- the loop of a comprehension from h, ending in R -/
structure CW (prog : Program) (w : World) (g : Shared) (A : Around) (c : Code) (R : Heap → Prop) (h : Heap) : Prop where
  go : ∀ m, codeAny (model prog w) A c (fun r s' => match r with | .ok _ => Post g (fun (_ : Unit) h => R h) () s' | .error _ => False) (sh g h m)

theorem comp_turn (elt target iter : Expr) (ifs : List Expr) (pre post : List Comprehension) (d : Nat) (hd : pre.length = d) (scope : Scope) (pos : Pos) (it acc : Value) (env : Env) :
    compTurn (.ListComp elt (pre ++ ⟨target, iter, ifs, 0⟩ :: post) scope pos) d it acc env = (do
      standAt iter.pos
      match ← pyNext it with
      | none => pure (.done .next)
      | some v =>
        letOwnedTupleGo target it v
        assign target env v
        let mut ok := true
        for c in ifs do
          if ok then ok ← isTrue c env (eval c env)
        if ok then
          match (pre ++ ⟨target, iter, ifs, 0⟩ :: post)[d + 1]? with
          | some g' =>
            let x ← eval g'.iter env
            standAt g'.iter.pos
            let x ← if g'.is_async != 0 then foldedIterable g'.iter x else foldedSetIterable g'.iter env x
            let _ ← runOwn (.compStart (.ListComp elt (pre ++ ⟨target, iter, ifs, 0⟩ :: post) scope pos) (d + 1) (← holding [x] (if g'.is_async != 0 then asyncIter x else pyIter x)) acc env) env
          | none => (do let _ ← call (.builtin "list.append") [acc, ← eval elt env])
        again (.compLoop (.ListComp elt (pre ++ ⟨target, iter, ifs, 0⟩ :: post) scope pos) d it acc env)) := by
  subst hd
  have e : (pre ++ ⟨target, iter, ifs, 0⟩ :: post)[pre.length]? = some ⟨target, iter, ifs, 0⟩ := by simp
  unfold compTurn
  simp only [e]
  rfl

/-- the innermost level: each item makes one item of the list -/
theorem cw_last {elt target iter : Expr} {pre : List Comprehension} {scope : Scope} {pos : Pos} {it : Value} {D : Addr} {cenv : Env} {R : Heap → Prop} (d : Nat) (hd : pre.length = d) (I : Nat → List Value → Heap → Prop) (n₀ : Nat) (ys₀ : List Value) (hI : I n₀ ys₀ h) (hD : LstAt h D ys₀)
    (turn : ∀ n ys h, I n ys h → LstAt h D ys → W prog w g A (pyNext it) (fun r h₁ => match r with
      | none => R h₁
      | some v => W prog w g A (letOwnedTupleGo target it v) (fun _ h₂ => W prog w g A (assign target cenv v) (fun _ h₃ => W prog w g A (eval elt cenv) (fun y h₄ =>
          LstAt h₄ D ys ∧ ys.length ≤ 5000 ∧ ∀ h₅, Ext (· = D) h₄ h₅ → LstAt h₅ D (ys ++ [y]) → ∃ m, m < n ∧ I m (ys ++ [y]) h₅) h₃) h₂) h₁) h) :
    CW prog w g A (.compLoop (.ListComp elt (pre ++ [⟨target, iter, [], 0⟩]) scope pos) d it (.ref D) cenv) R h := by
  refine ⟨fun m₀ => codeAny_loop rfl (fun n s => ∃ ys h m, s = sh g h m ∧ LstAt h D ys ∧ I n ys h) (fun n s hs => ?_) n₀ ⟨ys₀, h, m₀, rfl, hD, hI⟩⟩
  obtain ⟨ys, h, m, rfl, hD, hI⟩ := hs
  show wpAny _ _ ((compTurn (.ListComp elt (pre ++ [⟨target, iter, [], 0⟩]) scope pos) d it (.ref D) cenv).onRaise (fun x => do noteFrame x cenv; theTreesLotGoes x)) _ _ _
  refine wpAny_noted ?_
  rw [comp_turn elt target iter [] pre [] d hd]
  refine wpAny_bind (wpAny_standAt (wpAny_bind ((turn n ys h hI hD).then fun r h₁ m₁ q => ?_)))
  cases r with
  | none => exact wpAny_pure (.mk q)
  | some v =>
    have e2 : (pre ++ [(⟨target, iter, [], 0⟩ : Comprehension)])[d + 1]? = none := by rw [List.getElem?_eq_none]; simp [hd]
    simp only [e2]
    refine wpAny_bind (q.then fun _ h₂ m₂ q => wpAny_bind (q.then fun _ h₃ m₃ q => wpAny_bind (wpAny_pure (wpAny_bind (wpAny_bind (q.then fun y h₄ m₄ q => ?_))))))
    obtain ⟨hD₄, hz, q⟩ := q
    refine wpAny_bind ((c_append (Q := fun v h₅ => v = .none ∧ Ext (· = D) h₄ h₅ ∧ LstAt h₅ D (ys ++ [y])) hD₄ (by omega) fun h₅ e l => ⟨rfl, e, l⟩).then fun v h₅ m₅ x => ?_)
    obtain ⟨rfl, e, l⟩ := x
    obtain ⟨k, hk, q⟩ := q h₅ e l
    exact wpAny_pure (wpAny_pure ⟨rfl, k, hk, _, h₅, m₅, rfl, l, q⟩)

/-- one level, one test, that fails each time -/
theorem cw_none {elt target iter c : Expr} {scope : Scope} {pos : Pos} {it : Value} {D : Addr} {cenv : Env} {R : Heap → Prop} (I : Nat → Heap → Prop) (n₀ : Nat) (hI : I n₀ h)
    (turn : ∀ n h, I n h → W prog w g A (pyNext it) (fun r h₁ => match r with
      | none => R h₁
      | some v => W prog w g A (letOwnedTupleGo target it v) (fun _ h₂ => W prog w g A (assign target cenv v) (fun _ h₃ => W prog w g A (isTrue c cenv (eval c cenv)) (fun b h₄ => b = false ∧ ∃ m, m < n ∧ I m h₄) h₃) h₂) h₁) h) :
    CW prog w g A (.compLoop (.ListComp elt [⟨target, iter, [c], 0⟩] scope pos) 0 it (.ref D) cenv) R h := by
  refine ⟨fun m₀ => codeAny_loop rfl (fun n s => ∃ h m, s = sh g h m ∧ I n h) (fun n s hs => ?_) n₀ ⟨h, m₀, rfl, hI⟩⟩
  obtain ⟨h, m, rfl, hI⟩ := hs
  show wpAny _ _ ((compTurn (.ListComp elt [⟨target, iter, [c], 0⟩] scope pos) 0 it (.ref D) cenv).onRaise (fun x => do noteFrame x cenv; theTreesLotGoes x)) _ _ _
  refine wpAny_noted ?_
  rw [compTurn_list]
  refine wpAny_bind (wpAny_standAt (wpAny_bind ((turn n h hI).then fun r h₁ m₁ q => ?_)))
  cases r with
  | none => exact wpAny_pure (.mk q)
  | some v =>
    refine wpAny_bind (q.then fun _ h₂ m₂ q => wpAny_bind (q.then fun _ h₃ m₃ q => wpAny_bind (wpAny_tests_one (q.then fun b h₄ m₄ q => ?_))))
    obtain ⟨rfl, k, hk, q⟩ := q
    exact wpAny_pure ⟨rfl, k, hk, _, m₄, rfl, q⟩

/-- the outer of two levels -/
theorem cw_outer {elt target iter target' iter' : Expr} {scope : Scope} {pos : Pos} {it : Value} {D : Addr} {cenv : Env} {R : Heap → Prop} (I : Nat → Heap → Prop) (n₀ : Nat) (hI : I n₀ h)
    (turn : ∀ n h, I n h → W prog w g A (pyNext it) (fun r h₁ => match r with
      | none => R h₁
      | some v => W prog w g A (letOwnedTupleGo target it v) (fun _ h₂ => W prog w g A (assign target cenv v) (fun _ h₃ => W prog w g A (eval iter' cenv) (fun x h₄ => W prog w g A (pyIter x) (fun it' h₅ =>
          W prog w g A (pyIter it') (fun i2 h₆ => i2 = it' ∧ h₆ = h₅) h₅ ∧
          ∃ R' : Heap → Prop, CW prog w g A (.compLoop (.ListComp elt [⟨target, iter, [], 0⟩, ⟨target', iter', [], 0⟩] scope pos) 1 it' (.ref D) cenv) R' h₅ ∧ ∀ h', R' h' → ∃ m, m < n ∧ I m h') h₄) h₃) h₂) h₁) h)
    (hs : ∀ x, foldedSetIterable iter' cenv x = pure x := by intro _; rfl) :
    CW prog w g A (.compLoop (.ListComp elt [⟨target, iter, [], 0⟩, ⟨target', iter', [], 0⟩] scope pos) 0 it (.ref D) cenv) R h := by
  refine ⟨fun m₀ => codeAny_loop rfl (fun n s => ∃ h m, s = sh g h m ∧ I n h) (fun n s hs' => ?_) n₀ ⟨h, m₀, rfl, hI⟩⟩
  obtain ⟨h, m, rfl, hI⟩ := hs'
  show wpAny _ _ ((compTurn (.ListComp elt [⟨target, iter, [], 0⟩, ⟨target', iter', [], 0⟩] scope pos) 0 it (.ref D) cenv).onRaise (fun x => do noteFrame x cenv; theTreesLotGoes x)) _ _ _
  refine wpAny_noted ?_
  have ct : compTurn (.ListComp elt [⟨target, iter, [], 0⟩, ⟨target', iter', [], 0⟩] scope pos) 0 it (.ref D) cenv = (do
      standAt iter.pos
      match ← pyNext it with
      | none => pure (.done .next)
      | some v =>
        letOwnedTupleGo target it v
        assign target cenv v
        let x ← eval iter' cenv
        standAt iter'.pos
        let x ← foldedSetIterable iter' cenv x
        let i2 ← holding [x] (pyIter x)
        let _ ← runOwn (.compStart (.ListComp elt [⟨target, iter, [], 0⟩, ⟨target', iter', [], 0⟩] scope pos) 1 i2 (.ref D) cenv) cenv
        again (.compLoop (.ListComp elt [⟨target, iter, [], 0⟩, ⟨target', iter', [], 0⟩] scope pos) 0 it (.ref D) cenv)) := by rfl
  rw [ct]
  refine wpAny_bind (wpAny_standAt (wpAny_bind ((turn n h hI).then fun r h₁ m₁ q => ?_)))
  cases r with
  | none => exact wpAny_pure (.mk q)
  | some v =>
    refine wpAny_bind (q.then fun _ h₂ m₂ q => wpAny_bind (q.then fun _ h₃ m₃ q => ?_))
    refine wpAny_bind (q.then fun x h₄ m₄ q => wpAny_bind (wpAny_standAt (wpAny_bind (wpAny_of_eq (hs x) (wpAny_bind (wpAny_holding (q.then fun it' h₅ m₅ q => ?_)))))))
    obtain ⟨self, R', ⟨c⟩, fin⟩ := q
    refine wpAny_bind (wpAny_runOwn ?_)
    rw [Around.mark_none]
    have ok : ∀ (r : Result) (s' : Shared), (match r with | .ok _ => Post g (fun (_ : Unit) h => R' h) () s' | .error _ => False : Prop) → ∃ f h m, r = .ok f ∧ s' = sh g h m ∧ R' h := fun r s' q => by
      cases r with
      | ok f => obtain ⟨h, m, rfl, q⟩ := q; exact ⟨f, h, m, rfl, rfl, q⟩
      | error e => exact q.elim
    refine codeAny_of_tree ?_
    show wpAny _ _ ((compStart (.ListComp elt [⟨target, iter, [], 0⟩, ⟨target', iter', [], 0⟩] scope pos) 1 it' (.ref D) cenv).onRaise (fun x => do noteFrame x cenv; standAt theWindowsPlace)) _ _ _
    refine wpAny_notedAt ?_
    have loop : ∀ m Rr, (∀ h' f m', R' h' → Rr (.ok f) (sh g h' m')) → codeAny (model prog w) A (.compLoop (.ListComp elt [⟨target, iter, [], 0⟩, ⟨target', iter', [], 0⟩] scope pos) 1 it' (.ref D) cenv) Rr (sh g h₅ m) := fun m Rr k => codeAny_mono (c m) fun r s' q => by
      obtain ⟨f, h', m', rfl, rfl, q'⟩ := ok r s' q
      exact k h' f m' q'
    unfold compStart
    show wpAny _ _ (ask >>= _) _ _ _
    refine wpAny_bind (wpAny_askSetting (wpAny_ite ?_))
    split
    · first
        | exact wpAny_bind (wpAny_pure (wpAny_pure (And.intro rfl (loop _ _ fun h' f m' q => by obtain ⟨k, hk, q⟩ := fin h' q; exact wpAny_pure ⟨rfl, k, hk, h', m', rfl, q⟩))))
        | exact wpAny_pure (And.intro rfl (loop _ _ fun h' f m' q => by obtain ⟨k, hk, q⟩ := fin h' q; exact wpAny_pure ⟨rfl, k, hk, h', m', rfl, q⟩))
    · first
        | exact wpAny_bind (wpAny_rule (wpAny_bind (wpAny_standAt (wpAny_bind (self.then fun i2 h₆ m₆ ⟨a, b⟩ => by subst a b; exact wpAny_pure (And.intro rfl (loop _ _ fun h' f m' q => by obtain ⟨k, hk, q⟩ := fin h' q; exact wpAny_pure ⟨rfl, k, hk, h', m', rfl, q⟩)))))))
        | (refine wpAny_bind (wpAny_rule ?_); show wpAny _ _ (standAt iter'.pos >>= _) _ _ _; exact wpAny_bind (wpAny_standAt (wpAny_bind (self.then fun i2 h₆ m₆ ⟨a, b⟩ => by subst a b; exact wpAny_pure (And.intro rfl (loop _ _ fun h' f m' q => by obtain ⟨k, hk, q⟩ := fin h' q; exact wpAny_pure ⟨rfl, k, hk, h', m', rfl, q⟩))))))

/-- a list comprehension, its loop told by CW -/
theorem e_compG {elt target iter : Expr} {ifs : List Expr} {rest : List Comprehension} {scope : Scope} {pos : Pos} {Q : Value → Heap → Prop} (cl : List (Str × Addr))
    (hclos : closureFor scope env = pure cl) (hcell : ∀ y ∈ scope.names, y.2 ≠ .cell) (hkind : scope.kind = .function) (hnames : ∀ y ∈ scope.names, y.2 = .local → scope.names.lookup y.1 = some .local)
    (k : W prog w g A (eval iter env) (fun x h₁ => W prog w g A (pyIter x) (fun itv h₂ => ∃ it, itv = .ref it ∧ ∀ D C h₃, Ext None h₂ h₃ → h₂.get? D = none → h₂.get? C = none → D ≠ C → LstAt h₃ D [] → h₃.Ns C (fun _ => none) →
      ∃ R : Heap → Prop, CW prog w g A (.compLoop (.ListComp elt (⟨target, iter, ifs, 0⟩ :: rest) scope pos) 0 (.ref it) (.ref D) (compEnvC scope cl C env)) R h₃ ∧ W prog w g A (pyIter (.ref it)) (fun v h₂ => v = .ref it ∧ h₂ = h₃) h₃ ∧
      ∀ h, R h → (∃ m, h.Ns C m) ∧ ∀ h', Heap.ExtBut C h h' → Q (.ref D) h') h₁) h)
    (hs : ∀ x, foldedSetIterable iter env x = pure x := by intro _; rfl) :
    W prog w g A (eval (.ListComp elt (⟨target, iter, ifs, 0⟩ :: rest) scope pos) env) Q h := by
  refine ⟨fun n => ?_⟩
  rw [eval_ListComp]
  refine wpAny_comprehension_free (use := none) rfl hs hclos hkind hnames (k.then fun x h₁ m₁ k => k.then fun itv h n k => ?_)
  obtain ⟨it, rfl, k⟩ := k
  refine wpAny_newObj_type (wpAny_newFunctionEnv hcell (by intro y hy; simp at hy) (fun h₁ hns₁ hsb₁ => ?_) hkind)
  have hC : (h.push { cls := .type "list", dict := none, data := .seq ([] : List Value).toArray }).objs.size = h.objs.size + 1 := Heap.size_push ..
  have hne : h.objs.size ≠ (h.push { cls := .type "list", dict := none, data := .seq ([] : List Value).toArray }).objs.size := by rw [hC]; exact Nat.ne_of_lt (Nat.lt_succ_self _)
  have kp : ∀ b o, (h.push { cls := .type "list", dict := none, data := .seq ([] : List Value).toArray }).get? b = some o → h₁.get? b = some o := fun b o e =>
    (hsb₁.2 b (Nat.ne_of_lt (Heap.lt_size e))).trans (Heap.get?_push_of_some _ e)
  have hn2 : h.get? (h.push { cls := .type "list", dict := none, data := .seq ([] : List Value).toArray }).objs.size = none := by
    cases e : h.get? (h.push { cls := .type "list", dict := none, data := .seq ([] : List Value).toArray }).objs.size with
    | none => rfl
    | some o => have := Heap.lt_size e; rw [hC] at this; exact absurd (Nat.lt_of_succ_lt this) (Nat.lt_irrefl _)
  obtain ⟨R, cw, self, fin⟩ := k h.objs.size _ h₁ (Ext.grown fun b o e => kp _ _ (Heap.get?_push_of_some _ e)) (size_none _) hn2 hne ⟨0, kp _ _ (Heap.get?_push_size _ rfl)⟩ hns₁
  have loop : ∀ m, codeAny (model prog w) A (.compLoop (.ListComp elt (⟨target, iter, ifs, 0⟩ :: rest) scope pos) 0 (.ref it) (.ref h.objs.size) (compEnvC scope cl _ env)) (compPost (model prog w) A (fun _ _ => False) none (Post g Q) (.ref h.objs.size) _) (sh g h₁ m) := fun m =>
    codeAny_mono (cw.go m) fun r s' q => by
      cases r with
      | ok f =>
        obtain ⟨h', m', rfl, q⟩ := q
        obtain ⟨⟨m'', hn⟩, q⟩ := fin h' q
        exact ⟨m'', hn, fun h'' hb => .mk (q h'' (Heap.SameBut.extBut hb))⟩
      | error e => exact q.elim
  exact codeAny_compStart_list (loop _) (self.then fun v h₂ m₂ ⟨e1, e2⟩ => by subst e1 e2; exact loop m₂)
end
end Mine

end

section
open PySem PySem.W PySem.Calls PyProof.Rows
namespace Mine

/-- the ops of the law: small letters -/
noncomputable def GoodOp (o : Str) : Prop := 1 ≤ o.cps.size ∧ ∀ c ∈ o.cps.toList, 97 ≤ c ∧ c ≤ 122
theorem let_space : ∀ c, c < 123 → 97 ≤ c → Txt.isspace ⟨#[c]⟩ = false := by decide +kernel
theorem let_sign : ∀ c, c < 123 → 97 ≤ c → Txt.contains "()[]{},:" ⟨#[c]⟩ = false := by decide +kernel

section
variable {prog : Program} {w : World} {g : Shared} {hb : Heap} {A : Around} {h : Heap} {env : Env}

theorem e_and2 {x y : Expr} {pos : Pos} {Q : Value → Heap → Prop} (k : W prog w g A (eval x env) (fun v h₁ => ∃ q, v = .bool q ∧ if q = true then W prog w g A (eval y env) Q h₁ else Q (.bool q) h₁) h) : W prog w g A (eval (.BoolOp .And [x, y] pos) env) Q h :=
  ⟨fun n => BoolOp_and (k.then fun v h₁ m ⟨q, e, k⟩ => by
    subst e
    refine wpAny_truthy_bool ?_
    cases q
    · exact .mk k
    · exact BoolOp_one (W.any k))⟩
theorem e_or2 {x y : Expr} {pos : Pos} {Q : Value → Heap → Prop} (k : W prog w g A (eval x env) (fun v h₁ => ∃ q, v = .bool q ∧ if q = true then Q (.bool q) h₁ else W prog w g A (eval y env) Q h₁) h) : W prog w g A (eval (.BoolOp .Or [x, y] pos) env) Q h :=
  ⟨fun n => BoolOp_or (k.then fun v h₁ m ⟨q, e, k⟩ => by
    subst e
    refine wpAny_truthy_bool ?_
    cases q
    · exact BoolOp_one (W.any k)
    · exact .mk k)⟩
theorem m_isspace {o : Expr} {apos pos : Pos} {Q : Value → Heap → Prop} (k : W prog w g A (eval o env) (fun v h₁ => ∃ x t, v = .str x t ∧ Q (.bool (Txt.isspace x)) h₁) h)
    (hbase : attributeBase o "isspace" env (eval o env) = eval o env := by rfl) (hline : (apos.endLine == pos.line) = true := by rfl) : W prog w g A (eval (.Call (.Attribute o "isspace" apos) [] [] pos) env) Q h :=
  ⟨fun n => wpAny_Call_method_lateS hbase rfl hline (k.then fun v h₁ m ⟨x, t, e, k⟩ => by subst e; exact PySem.SB.isspace (.mk k))⟩
theorem o_in_str {x y : Str} {t u : Tok} {Q : Value → Heap → Prop} (k : Q (.bool (Txt.contains x y)) h) : W prog w g A (compareOp .In (.str y u) (.str x t)) Q h := ⟨fun _ => PySem.P.in_str (.mk k)⟩
theorem o_eq_str {x y : Str} {t u : Tok} {Q : Value → Heap → Prop} (k : Q (.bool (x.cps.toList == y.cps.toList)) h) : W prog w g A (compareOp .Eq (.str x t) (.str y u)) Q h := ⟨fun _ => PySem.P.eq_str (.mk k)⟩
theorem o_eq_empty {a b : Addr} {Q : Value → Heap → Prop} (ha : LstAt h a []) (hb : LstAt h b []) (hu : A.units < cLine) (k : Q (.bool true) h) : W prog w g A (compareOp .Eq (.ref a) (.ref b)) Q h :=
  let ⟨_, p⟩ := ha; let ⟨_, q⟩ := hb
  ⟨fun n => PySem.P.eq_list (s := sh g h n) (e := fun _ => true) p q rfl (fun j h1 => by simp at h1) hu (.mk k)⟩

theorem striter_at {h' : Heap} {it : Addr} {T : String} {x : Str} {t : Tok} {i : Nat} (a : h.IsStrIter it T x t i) (k : ∀ o, h.get? it = some o → h'.get? it = some o) : h'.IsStrIter it T x t i := let ⟨o, p, q⟩ := a; ⟨o, k o p, q⟩
theorem is_op_ok {o : Str} {u : Tok} {Q : Value → Heap → Prop} (B : Base w hb) (S : St hb h) (R : Rm A 1) (ho : GoodOp o) (k : ∀ h₁, Ext None h h₁ → Q (.bool true) h₁) : W prog w g A (call (.ref 67) [.str o u]) Q h := by
  refine call_def (k := 0) [("text", .str o u)] B S R rfl rfl rfl rfl (by decide) rfl rfl rfl fun h₁ L e₁ S₁ R₁ hL hn₁ => ?_
  refine W.hideL ?_
  intro K
  refine x_cons ?_
  refine W.hideL ?_
  intro K
  refine x_ret <| e_and2 <| e_cmp <| e_local hn₁ rfl <| e_str fun _ => o_ne_str ⟨_, rfl, ?_⟩
  have h1 : sne o "" = true := by
    unfold sne
    rw [bne_iff_ne]
    intro q
    have e := congrArg List.length q
    have h := ho.1
    rw [Array.length_toList, Array.length_toList, show ("" : Str).cps.size = 0 from rfl] at e
    omega
  rw [if_pos h1]
  refine e_cmp <| e_compG [] rfl (by decide) rfl (by decide) <| e_local hn₁ rfl <| iter_str (by
    rw [Array.all_eq_true_iff_forall_mem]
    intro c hc
    have := ho.2 c (by simpa using hc)
    simp; omega) fun h₂ it e₂ hit hs => ⟨it, rfl, fun D C h₃ e₃ nD nC ne lD nsC => ?_⟩
  have it2 : h₂.get? it ≠ none := by obtain ⟨o, q, _⟩ := hs; rw [q]; exact nofun
  have itC : it ≠ C := ne_new it2 nC
  have itD : it ≠ D := ne_new it2 nD
  have C1 : h₁.get? C = none := e₂.new nC
  have D1 : h₁.get? D = none := e₂.new nD
  have hs3 : h₃.IsStrIter it "str_ascii_iterator" o u 0 := striter_at hs fun _ q => e₃.keep _ _ id q
  refine ⟨fun h' => (∃ m, h'.Ns C m) ∧ Ext None h₁ h' ∧ LstAt h' D [], cw_none (fun n h' => ∃ i m, i ≤ o.cps.size ∧ n = o.cps.size - i ∧ h'.IsStrIter it "str_ascii_iterator" o u i ∧ h'.Ns C m ∧ Ext None h₁ h' ∧ LstAt h' D []) o.cps.size
    ⟨0, _, Nat.zero_le _, rfl, hs3, nsC, e₂.trans e₃, lD⟩ ?_, (It.str R₁.hh).self 0 _ _ hs3 ⟨rfl, rfl⟩, ?_⟩
  · rintro n h' ⟨i, m, hi, rfl, hs, ns, E, lD⟩
    refine (It.str R₁.hh).turn hs hi (fun hi v h₄ hv hs₄ e₄ => ?_) fun hi h₄ k₄ => ⟨⟨_, ns_fin ns k₄ itC.symm⟩, E.fin hit k₄, lD.fin k₄ itD.symm⟩
    obtain ⟨c, t, hc, rfl⟩ := hv
    have hcc := ho.2 c (by
      have := Array.mem_of_getElem? hc
      simpa using this)
    refine asg_local (ns_to ns e₄ itC.symm) fun h₅ e₅ n₅ => b_or2 <| b_val <| m_isspace <| e_local n₅ rfl ⟨_, _, rfl, _, rfl, ?_⟩
    rw [let_space c (by omega) hcc.1, if_neg (by decide)]
    refine b_cmp <| e_local n₅ rfl <| e_str fun _ => o_in_str ⟨_, rfl, ?_⟩
    refine ⟨let_sign c (by omega) hcc.1, o.cps.size - (i + 1), by omega, i + 1, _, hi, rfl, striter_at hs₄ fun _ q => e₅.keep _ _ itC q, n₅, (E.at e₄ hit).at e₅ C1, (lD.to e₄ itD.symm).to e₅ ne⟩
  · rintro h' ⟨⟨m, ns⟩, E, lD⟩
    refine ⟨⟨m, ns⟩, fun h'' k'' => ?_⟩
    have E2 : Ext None h₁ h'' := E.fin C1 k''
    refine e_lst <| i_nil ⟨Nat.le_of_ble_eq_true rfl, fun h₇ z e₇ _ lz => o_eq_empty ((lD.fin k'' ne).to e₇) lz R₁.u ?_⟩
    exact k _ ((e₁.trans E2).trans e₇)

/-- a letter of a str -/
theorem t_str0 {value slice : Expr} {x : Str} {t u : Tok} {c : Nat} {Q : Value → Heap → Prop} (hc : x.cps[0]? = some c) (k : ∀ v, Q (.str ⟨#[c]⟩ v) h)
    (hs : subscripted slice false (.str x t) (.int 0 u) = operate [.str x t, .int 0 u] (getItem (.str x t) (.int 0 u)) := by with_unfolding_all rfl) : W prog w g A (subscriptTail value slice (.str x t) (.int 0 u)) Q h :=
  ⟨fun n => tail_any (s := sh g h n) (typeIs_str _ x t) slot_str_getitem.lookup (PySem.P.getItem_str (by decide) (by
    have hl : 0 < x.length := (Array.getElem?_eq_some_iff.mp hc).1
    unfold seqIndex?
    simp [hl, hc]) (.mk (k _))) hs⟩
theorem require_ok {x : Addr} {o : Str} {u : Tok} {Q : Value → Heap → Prop} (B : Base w hb) (S : St hb h) (R : Rm A 2) (ho : GoodOp o) (k : ∀ h₁, Ext None h h₁ → Q .none h₁) : W prog w g A (call (.ref 110) [.ref x, .str o u]) Q h := by
  refine call_def (k := 1) [("self", .ref x), ("op", .str o u)] B S R rfl rfl rfl rfl (by decide) rfl rfl rfl fun h₁ L e₁ S₁ R₁ hL hn₁ => ?_
  refine W.hideL ?_
  intro K
  refine x_cons ?_
  refine W.hideL ?_
  intro K
  refine x_if <| b_or2 <| b_not <| b_val <| c_glob B S₁ n_is_op <| i_cons <| e_local hn₁ rfl <| i_nil ⟨S₁, is_op_ok B S₁ R₁ ho fun h₂ e₂ => ⟨true, rfl, ?_⟩⟩
  rw [if_neg (by decide)]
  obtain ⟨c, hc⟩ : ∃ c, o.cps[0]? = some c := ⟨_, Array.getElem?_eq_getElem ho.1⟩
  have hcc := ho.2 c (by have := Array.mem_of_getElem? hc; simpa using this)
  refine b_cmp <| e_sub <| e_local (ns_to hn₁ e₂) rfl <| e_int fun _ => t_str0 hc fun _ => e_str fun _ => o_eq_str ⟨_, rfl, ?_⟩
  rw [if_neg (by
    rw [beq_iff_eq]
    intro q
    have q : [c] = [63] := q
    injection q with q
    omega)]
  exact x_nil (x_nil (k _ (e₁.trans e₂)))
end
end Mine

end

section
open PySem PySem.W PySem.Calls PyProof.Rows
namespace Mine

theorem All2.length' {α β : Type} {R : α → β → Prop} {as : List α} {bs : List β} (x : All2 R as bs) : bs.length = as.length := x.length.symm

section
variable {prog : Program} {w : World} {g : Shared} {hb : Heap} {A : Around} {h : Heap} {env : Env}

noncomputable def IntIs (i : Int) (v : Value) : Prop := ∃ u, v = .int i u
theorem intItems_of {vs : List Value} {is : List Int} (x : All2 IntIs is vs) : ∃ xs : List (Int × Tok), vs.toArray = intItems xs.toArray ∧ is = xs.map (·.1) := by
  induction x with
  | nil => exact ⟨[], by simp [intItems], rfl⟩
  | cons h _ ih =>
    obtain ⟨u, rfl⟩ := h
    obtain ⟨xs, e, rfl⟩ := ih
    refine ⟨(_, u) :: xs, ?_, rfl⟩
    simp only [intItems, List.map_toArray, List.map_cons] at e ⊢
    rw [List.toArray_inj e]
theorem c_sum {l : Addr} {vs : List Value} {is : List Int} {Q : Value → Heap → Prop} (hh : A.handled = none) (hl : LstAt h l vs) (hi : All2 IntIs is vs) (k : ∀ h₁ u, Ext None h h₁ → Q (.int is.sum u) h₁) : W prog w g A (call (.builtin "sum") [.ref l]) Q h := by
  obtain ⟨xs, e, rfl⟩ := intItems_of hi
  refine ⟨fun n => sum_intListG (s := sh g h n) (xs := xs.toArray) hh (e ▸ LstAt.isList hl) fun h' tk t' hk => ?_⟩
  rw [preSum_eq, List.take_of_length_le (by simp)]
  exact .mk (k _ _ (Ext.grown hk))
theorem c_max {l : Addr} {vs : List Value} {is : List Int} {Q : Value → Heap → Prop} (hh : A.handled = none) (hl : LstAt h l vs) (hi : All2 IntIs is vs) (hn : vs ≠ []) (k : ∀ h₁ i u, Ext None h h₁ → Q (.int i u) h₁) : W prog w g A (call (.builtin "max") [.ref l]) Q h := by
  obtain ⟨xs, e, rfl⟩ := intItems_of hi
  have hne : 0 < xs.toArray.size := by
    have h1 := hi.length
    have h2 : vs.length ≠ 0 := by simpa using hn
    rw [List.length_map] at h1
    rw [List.size_toArray]
    omega
  refine ⟨fun n => max_intList (s := sh g h n) (xs := xs.toArray) hh (e ▸ LstAt.isList hl) hne fun v h' tk hv hk => ?_⟩
  obtain ⟨t, rfl⟩ := intItems_at hv
  exact .mk (k _ _ _ (Ext.grown hk))
theorem b_chain2 {l r₁ r₂ : Expr} {op₁ op₂ : CmpOp} {pos : Pos} {whole : Sem Value} {Q : Bool → Heap → Prop}
    (k : W prog w g A (eval l env) (fun a h₁ => W prog w g A (eval r₁ env) (fun b h₂ => W prog w g A (compareOp op₁ a b) (fun c h₃ => ∃ q, c = .bool q ∧ if q = true then
      W prog w g A (eval r₂ env) (fun d h₄ => W prog w g A (compareOp op₂ b d) (fun c h₅ => ∃ q, c = .bool q ∧ Q q h₅) h₄) h₃ else Q false h₃) h₂) h₁) h)
    (hm : lastMarks [op₁, op₂] [r₁, r₂] = false := by with_unfolding_all rfl) : W prog w g A (isTrue (.Compare l [op₁, op₂] [r₁, r₂] pos) env whole) Q h :=
  ⟨fun n => isTrue_chain (k.then fun a h₁ _ k => test_link (k.then fun b h₂ _ k => k.then fun c h₃ _ k => by
    obtain ⟨q, rfl, k⟩ := k
    refine wpAny_truthy_bool ?_
    cases q
    · exact .mk k
    · exact test_last (W.then k fun d h₄ _ k => k.then fun c h₅ _ k => by
        obtain ⟨q, rfl, k⟩ := k
        exact wpAny_truthy_bool (.mk k))) ) hm⟩
end

/-- a Bank and its addresses -/
structure Bk where
  x : Addr
  dx : Addr
  nd : Addr
  nm : Addr
  wt : Addr
  dp : Addr
noncomputable def Bk.all (b : Bk) (a : Addr) : Prop := a = b.x ∨ a = b.dx ∨ a = b.nd ∨ a = b.nm ∨ a = b.wt ∨ a = b.dp
noncomputable def Bk.mut (b : Bk) (a : Addr) : Prop := a = b.nd ∨ a = b.nm ∨ a = b.wt ∨ a = b.dp
theorem Bk.mut_all {b : Bk} {a : Addr} (h : b.mut a) : b.all a := by
  rcases h with h | h | h | h
  · exact .inr (.inr (.inl h))
  · exact .inr (.inr (.inr (.inl h)))
  · exact .inr (.inr (.inr (.inr (.inl h))))
  · exact .inr (.inr (.inr (.inr (.inr h))))

noncomputable def Num (ts : List T) (t : T) (n : Nat) : Prop := ts[n]? = some t
theorem Num.more {ts us : List T} {t : T} {n : Nat} (x : Num ts t n) : Num (ts ++ us) t n := by
  unfold Num at *
  rw [List.getElem?_append_left (List.getElem?_eq_some_iff.mp x).1]; exact x
noncomputable def NodeV (h : Heap) (ts : List T) (t : T) (v : Value) : Prop := ∃ a u ns kv, v = .ref a ∧ TupAt h a (.str t.op u :: kv) ∧ All2 (Num ts) t.kids ns ∧ All2 NatIs ns kv
noncomputable def NodeK (ts : List T) (t : T) (k : List Mix) : Prop := ∃ ns, All2 (Num ts) t.kids ns ∧ k = .inl t.op :: ns.map (fun (n : Nat) => .inr (n : Int))
theorem NodeV.tk {h h₁ : Heap} {ts : List T} {t : T} {v : Value} (x : NodeV h ts t v) (k : Tk h h₁) : NodeV h₁ ts t v := let ⟨a, u, ns, kv, e, p, q, r⟩ := x; ⟨a, u, ns, kv, e, p.tk k, q, r⟩
theorem NodeV.more {h : Heap} {ts us : List T} {t : T} {v : Value} (x : NodeV h ts t v) : NodeV h (ts ++ us) t v := let ⟨a, u, ns, kv, e, p, q, r⟩ := x; ⟨a, u, ns, kv, e, p, q.imp fun _ _ => Num.more, r⟩
theorem NodeK.more {ts us : List T} {t : T} {k : List Mix} (x : NodeK ts t k) : NodeK (ts ++ us) t k := let ⟨ns, q, e⟩ := x; ⟨ns, q.imp fun _ _ => Num.more, e⟩
theorem T.ext {s t : T} (ho : s.op = t.op) (hk : s.kids = t.kids) : s = t := by
  cases s <;> cases t <;> simp_all [T.op, T.kids]
theorem nums_fun {ts : List T} {as bs : List T} {ns : List Nat} (x : All2 (Num ts) as ns) (y : All2 (Num ts) bs ns) : as = bs := by
  induction x generalizing bs with
  | nil => cases y; rfl
  | cons h _ ih =>
    cases y with
    | cons h' t' =>
      have : some _ = some _ := h.symm.trans h'
      rw [Option.some.inj this, ih t']
theorem nums_inj {ts : List T} (nd : ts.Nodup) {as : List T} {ns ms : List Nat} (x : All2 (Num ts) as ns) (y : All2 (Num ts) as ms) : ns = ms := by
  induction x generalizing ms with
  | nil => cases y; rfl
  | cons h _ ih =>
    cases y with
    | cons h' t' =>
      rw [ih t']
      congr 1
      have h1 := List.getElem?_eq_some_iff.mp h
      have h2 := List.getElem?_eq_some_iff.mp h'
      exact (List.getElem_inj nd).mp (h1.2.trans h2.2.symm)
theorem mixs_inj {ns ms : List Nat} (h : ns.map (fun (n : Nat) => (.inr (n : Int) : Mix)) = ms.map (fun (n : Nat) => (.inr (n : Int) : Mix))) : ns = ms := by
  induction ns generalizing ms with
  | nil => cases ms with
    | nil => rfl
    | cons _ _ => simp at h
  | cons a r ih => cases ms with
    | nil => simp at h
    | cons b s =>
      simp only [List.map_cons, List.cons.injEq, Sum.inr.injEq] at h
      rw [ih h.2]
      congr 1
      omega
theorem NodeK.inj {ts : List T} {s t : T} {k : List Mix} (x : NodeK ts s k) (y : NodeK ts t k) : s = t := by
  obtain ⟨ns, p, rfl⟩ := x
  obtain ⟨ms, q, e⟩ := y
  simp only [List.cons.injEq, Sum.inl.injEq] at e
  have := mixs_inj e.2
  subst this
  exact T.ext e.1 (nums_fun p q)

structure BankAt (prog : Program) (w : World) (h : Heap) (b : Bk) (ts : List T) : Prop where
  obj : BankObj h b.x b.dx b.nd b.nm b.wt b.dp
  nodes : ∃ vs, LstAt h b.nd vs ∧ All2 (NodeV h ts) ts vs
  nums : ∃ ks, NumAt prog w h b.nm ks ∧ All2 (NodeK ts) ts ks
  wts : ∃ vs, LstAt h b.wt vs ∧ All2 (fun t v => NatIs t.size v) ts vs
  dps : ∃ vs, LstAt h b.dp vs ∧ All2 (fun (_ : T) v => ∃ i, IntIs i v) ts vs
  apart : [b.x, b.dx, b.nd, b.nm, b.wt, b.dp].Nodup
  nd : ts.Nodup
  low : ∀ (i : Nat) (t : T), ts[i]? = some t → ∀ k, k ∈ t.kids → ∃ j, j < i ∧ ts[j]? = some k
theorem BankAt.to {prog : Program} {w : World} {Y : Addr → Prop} {h h₁ : Heap} {b : Bk} {ts : List T} (x : BankAt prog w h b ts) (e : Ext Y h h₁) (n : ∀ a, b.all a → ¬ Y a) : BankAt prog w h₁ b ts where
  obj := x.obj.to e (n _ (.inl rfl)) (n _ (.inr (.inl rfl)))
  nodes := let ⟨vs, p, q⟩ := x.nodes; ⟨vs, p.to e (n _ (.inr (.inr (.inl rfl)))), q.imp fun _ _ r => r.tk e.tup⟩
  nums := let ⟨ks, p, q⟩ := x.nums; ⟨ks, p.to e (n _ (.inr (.inr (.inr (.inl rfl))))), q⟩
  wts := let ⟨vs, p, q⟩ := x.wts; ⟨vs, p.to e (n _ (.inr (.inr (.inr (.inr (.inl rfl)))))), q⟩
  dps := let ⟨vs, p, q⟩ := x.dps; ⟨vs, p.to e (n _ (.inr (.inr (.inr (.inr (.inr rfl)))))), q⟩
  apart := x.apart
  nd := x.nd
  low := x.low
theorem BankAt.some {prog : Program} {w : World} {h : Heap} {b : Bk} {ts : List T} (x : BankAt prog w h b ts) : ∀ a, b.all a → h.get? a ≠ none := by
  rintro a (rfl | rfl | rfl | rfl | rfl | rfl)
  · rw [x.obj.1]; exact nofun
  · obtain ⟨_, _, _, _, _, _, _, _, _, _, p⟩ := x.obj; rw [p]; exact nofun
  · obtain ⟨_, p, _⟩ := x.nodes; exact p.some
  · obtain ⟨_, p, _⟩ := x.nums; exact p.some
  · obtain ⟨_, p, _⟩ := x.wts; exact p.some
  · obtain ⟨_, p, _⟩ := x.dps; exact p.some
theorem BankAt.keep {prog : Program} {w : World} {h h₁ : Heap} {b : Bk} {ts : List T} (x : BankAt prog w h b ts) (e : Ext None h h₁) : BankAt prog w h₁ b ts := x.to e fun _ _ => id
/-- beside an address that is new -/
theorem BankAt.at {prog : Program} {w : World} {h h₁ h₀ : Heap} {b : Bk} {ts : List T} {L : Addr} (x : BankAt prog w h b ts) (e : Ext (· = L) h h₁) (n : ∀ a, b.all a → a ≠ L) : BankAt prog w h₁ b ts := x.to e n
end Mine

end

section
open PySem PySem.W PySem.Calls PyProof.Rows
namespace Mine
section
variable {prog : Program} {w : World} {g : Shared} {hb : Heap} {A : Around} {h : Heap} {env : Env}

theorem op_ok {b : Bk} {ts : List T} {t : T} {n : Nat} {u : Tok} {Q : Value → Heap → Prop} (B : Base w hb) (S : St hb h) (R : Rm A 1) (bk : BankAt prog w h b ts) (hz : ts.length ≤ 5000) (hn : ts[n]? = some t)
    (k : ∀ h₁ u, Ext None h h₁ → Q (.str t.op u) h₁) : W prog w g A (call (.ref 136) [.ref b.x, .int n u]) Q h := by
  refine call_def (k := 0) [("self", .ref b.x), ("n", .int n u)] B S R rfl rfl rfl rfl (by decide) rfl rfl rfl fun h₁ L e₁ S₁ R₁ hL hn₁ => ?_
  have bk₁ := bk.keep e₁
  obtain ⟨vs, lv, av⟩ := bk₁.nodes
  obtain ⟨v, hv, a, u', ns, kv, rfl, ta, _⟩ := av.get' hn
  have hlt := (List.getElem?_eq_some_iff.mp hn).1
  refine W.hideL ?_
  intro K
  refine x_cons ?_
  refine W.hideL ?_
  intro K
  refine x_ret <| e_sub <| e_sub <| e_attr <| e_local hn₁ rfl <| g_nodes B S₁ bk₁.obj <| e_local hn₁ rfl <| t_list _ lv (by omega) (by omega) (by simpa using hv) <| e_int fun _ => t_tup (.str t.op u') ta (by decide) (by decide) rfl ?_
  exact k _ _ e₁
theorem kids_ok {b : Bk} {ts : List T} {t : T} {n : Nat} {u : Tok} {Q : Value → Heap → Prop} (B : Base w hb) (S : St hb h) (R : Rm A 1) (bk : BankAt prog w h b ts) (hz : ts.length ≤ 5000) (hn : ts[n]? = some t)
    (k : ∀ h₁ a kv ns, Ext None h h₁ → TupAt h₁ a kv → All2 (Num ts) t.kids ns → All2 NatIs ns kv → Q (.ref a) h₁) : W prog w g A (call (.ref 143) [.ref b.x, .int n u]) Q h := by
  refine call_def (k := 0) [("self", .ref b.x), ("n", .int n u)] B S R rfl rfl rfl rfl (by decide) rfl rfl rfl fun h₁ L e₁ S₁ R₁ hL hn₁ => ?_
  have bk₁ := bk.keep e₁
  obtain ⟨vs, lv, av⟩ := bk₁.nodes
  obtain ⟨v, hv, a, u', ns, kv, rfl, ta, p, q⟩ := av.get' hn
  have hlt := (List.getElem?_eq_some_iff.mp hn).1
  refine W.hideL ?_
  intro K
  refine x_cons ?_
  refine W.hideL ?_
  intro K
  refine x_ret <| e_sub <| e_sub <| e_attr <| e_local hn₁ rfl <| g_nodes B S₁ bk₁.obj <| e_local hn₁ rfl <| t_list _ lv (by omega) (by omega) (by simpa using hv) <| e_from1 fun h₂ sl _ e₂ _ hsl => t_tup_from (ta.to e₂) hsl ?_ fun h₃ a₃ e₃ _ t₃ => ?_
  · have := p.length; have := q.length; have := t.kids_len; omega
  · exact k _ _ _ _ ((e₁.trans e₂).trans e₃) t₃ p q
theorem weight_ok {b : Bk} {ts : List T} {t : T} {n : Nat} {u : Tok} {Q : Value → Heap → Prop} (B : Base w hb) (S : St hb h) (R : Rm A 1) (bk : BankAt prog w h b ts) (hz : ts.length ≤ 5000) (hn : ts[n]? = some t)
    (k : ∀ h₁ u, Ext None h h₁ → Q (.int t.size u) h₁) : W prog w g A (call (.ref 162) [.ref b.x, .int n u]) Q h := by
  refine call_def (k := 0) [("self", .ref b.x), ("n", .int n u)] B S R rfl rfl rfl rfl (by decide) rfl rfl rfl fun h₁ L e₁ S₁ R₁ hL hn₁ => ?_
  have bk₁ := bk.keep e₁
  obtain ⟨vs, lv, av⟩ := bk₁.wts
  obtain ⟨v, hv, u', rfl⟩ := av.get' hn
  have hlt := (List.getElem?_eq_some_iff.mp hn).1
  refine W.hideL ?_
  intro K
  refine x_cons ?_
  refine W.hideL ?_
  intro K
  refine x_ret <| e_sub <| e_attr <| e_local hn₁ rfl <| g_weights B S₁ bk₁.obj <| e_local hn₁ rfl <| t_list _ lv (by omega) (by omega) (by simpa using hv) ?_
  exact k _ _ e₁

theorem tup_trans' {h h₁ h₂ : Heap} (x : ∀ b vs n, h.get? b = some (tupO vs n) → h₁.get? b = some (tupO vs n)) (y : ∀ b vs n, h₁.get? b = some (tupO vs n) → h₂.get? b = some (tupO vs n)) : Tk h h₂ := fun b vs n q => y b vs n (x b vs n q)
theorem ns_step {Y : Addr → Prop} {h₁ h' : Heap} {L : Addr} {m : Str → Option Value} (x : h.Ns L m) (s : Step Y h₁ h h') (hL : h₁.get? L ≠ none) (n : ¬ Y L := by exact id) : h'.Ns L m :=
  let ⟨o, es, ep, q, r⟩ := x; ⟨o, es, ep, s.keep _ _ hL n q, r⟩
theorem All2.ints {α : Type} {xs : List α} {vs : List Value} (x : All2 (fun _ v => ∃ i, IntIs i v) xs vs) : ∃ is, All2 IntIs is vs := by
  induction x with
  | nil => exact ⟨[], .nil⟩
  | cons h _ ih => obtain ⟨i, h⟩ := h; obtain ⟨is, ih⟩ := ih; exact ⟨i :: is, .cons h ih⟩
theorem size_int (t : T) : 1 + (t.kids.map fun k => (k.size : Int)).sum = (t.size : Int) := by cases t <;> simp [T.kids, T.size]
theorem items_mix {ns : List Nat} {kv : List Value} (x : All2 NatIs ns kv) : ItemsAre (mixKind prog w) (ns.map fun (n : Nat) => (.inr (n : Int) : Mix)) kv := by
  induction x with
  | nil => exact .nil
  | cons h _ ih => obtain ⟨u, rfl⟩ := h; exact .cons mix_i ih
theorem NodeK.mem {ts : List T} {t : T} {ks : List (List Mix)} {k : List Mix} (x : All2 (NodeK ts) ts ks) (y : NodeK ts t k) (nd : ts.Nodup) : k ∈ ks ↔ t ∈ ts := by
  constructor
  · intro h
    obtain ⟨i, hi⟩ := List.mem_iff_getElem?.mp h
    obtain ⟨s, hs, z⟩ := x.get hi
    rw [← z.inj y]; exact List.mem_of_getElem? hs
  · intro h
    obtain ⟨i, hi⟩ := List.mem_iff_getElem?.mp h
    obtain ⟨k', hk, z⟩ := x.get' hi
    obtain ⟨ns, p, rfl⟩ := y
    obtain ⟨ms, q, rfl⟩ := z
    rw [nums_inj nd p q]; exact List.mem_of_getElem? hk

theorem take_ok {b : Bk} {ts : List T} {t : T} {ns : List Nat} {kv : List Value} {kt : Addr} {u : Tok} {Q : Value → Heap → Prop} (B : Base w hb) (S : St hb h) (R : Rm A 4) (bk : BankAt prog w h b ts) (hbb : ∀ a, b.all a → hb.get? a = none) (hz : ts.length ≤ 2000)
    (ho : GoodOp t.op) (hns : All2 (Num ts) t.kids ns) (tk : TupAt h kt kv) (hkv : All2 NatIs ns kv)
    (k : ∀ h₁ (n : Nat) u (ts' : List T), Ext b.mut h h₁ → BankAt prog w h₁ b ts' → ts'[n]? = some t → (ts' = ts ∨ ts' = ts ++ [t]) → Q (.int n u) h₁) : W prog w g A (call (.ref 103) [.ref b.x, .str t.op u, .ref kt]) Q h := by
  refine call_defC (k := 3) [("self", .ref b.x), ("op", .str t.op u), ("kids", .ref kt)] B S R rfl rfl rfl rfl rfl rfl rfl fun h₁ L e₁ S₁ R₁ hL hC hn₁ hc₁ => ?_
  have hc0 : h.get? (L + 1) = none := hC "self" (L + 1) (.head _)
  have hc₁ : h₁.IsCell (L + 1) (some (.ref b.x)) := hc₁ "self" (L + 1) rfl
  have cL : L + 1 ≠ L := Nat.succ_ne_self _
  have hkl : kv.length ≤ 2 := by have := hns.length; have := hkv.length; have := t.kids_len; omega
  have bL : ∀ a, b.all a → a ≠ L := fun a q => ne_new (bk.some a q) hL
  -- node = (op,) + tuple(kids)
  refine W.hideL ?_
  intro K
  refine x_cons ?_
  refine W.hideL ?_
  intro K
  refine x_assign <| e_bin <| e_tup <| i_cons <| e_local hn₁ rfl <| i_nil ⟨Nat.le_of_ble_eq_true rfl, fun h₂ p e₂ _ tp => ?_⟩
  have S₂ := S₁.to e₂
  refine c_bi B S₂ n_tuple <| i_cons <| e_local (ns_to hn₁ e₂) rfl <| i_nil ⟨S₂, c_tuple_tup (tk.to (e₁.trans e₂)) <| o_add_tup tp (tk.to (e₁.trans e₂)) (by simp; omega) fun h₃ nod e₃ tn => st_local (ns_to (ns_to hn₁ e₂) e₃) fun h₄ e₄ hn₄ => ?_⟩
  have E₄ : Ext None h h₄ := ((e₁.trans e₂).trans e₃).at e₄ hL
  have tn₄ := tn.to e₄
  have c₄ := cell_to (cell_to (cell_to hc₁ e₂) e₃) e₄ cL
  have bk₄ := bk.keep E₄
  have S₄ := S.to E₄
  -- if node in self.numbers: return self.numbers[node]
  obtain ⟨ks, nmk, ak⟩ := bk₄.nums
  have key : NodeK ts t (.inl t.op :: ns.map fun (n : Nat) => .inr (n : Int)) := ⟨ns, hns, rfl⟩
  have it4 : ItemsAre (mixKind prog w) (.inl t.op :: ns.map fun (n : Nat) => (.inr (n : Int) : Mix)) ([.str t.op u] ++ kv) := .cons mix_s (items_mix hkv)
  have ui : ∀ {e : Env}, (A.deeper e).units + 1 < cLine := fun {e} => by have := R.units; show A.units + 3 + 1 < _; omega
  by_cases hin : t ∈ ts
  · refine W.hideL ?_
    intro K
    refine x_cons ?_
    refine W.hideL ?_
    intro K
    refine x_if <| b_cmp <| e_local hn₄ rfl <| e_attr <| e_cell rfl c₄ <| g_numbers B S₄ bk₄.obj <| o_in_num nmk tn₄ it4 ui (q := true) (by simpa using (NodeK.mem ak key bk.nd).mpr hin) ⟨true, rfl, ?_⟩
    obtain ⟨j, hj⟩ := List.mem_iff_getElem?.mp ((NodeK.mem ak key bk.nd).mpr hin)
    obtain ⟨t', ht', z⟩ := ak.get hj
    have ht : t' = t := z.inj key
    subst ht
    rw [if_pos rfl]
    refine W.hideL ?_
    intro K
    refine x_cons ?_
    refine W.hideL ?_
    intro K
    refine x_ret <| e_sub <| e_attr <| e_cell rfl c₄ <| g_numbers B S₄ bk₄.obj <| e_local hn₄ rfl <| t_num nmk tn₄ it4 ui hj fun u' => ?_
    exact k _ _ _ ts E₄.of bk₄ ht' (.inl rfl)
  refine W.hideL ?_
  intro K
  refine x_cons ?_
  refine W.hideL ?_
  intro K
  refine x_if <| b_cmp <| e_local hn₄ rfl <| e_attr <| e_cell rfl c₄ <| g_numbers B S₄ bk₄.obj <| o_in_num nmk tn₄ it4 ui (q := false) (by simpa using fun h => hin ((NodeK.mem ak key bk.nd).mp h)) ⟨false, rfl, ?_⟩
  rw [if_neg (by decide)]
  -- self.require(op)
  refine x_nil <| x_cons <| x_expr <| m_bank B f_require rfl (fun _ _ _ _ _ _ _ _ _ _ _ _ => rfl) <| e_cell rfl c₄ ⟨b.x, b.dx, b.nd, b.nm, b.wt, b.dp, rfl, S₄, bk₄.obj, i_cons <| e_local hn₄ rfl <| i_nil ⟨S₄, require_ok B S₄ (R₁.mono (by omega)) ho fun h₅ e₅ => ⟨rfl, ?_⟩⟩⟩
  have E₅ := E₄.trans e₅
  have hn₅ := ns_to hn₄ e₅
  have tn₅ := tn₄.to e₅
  have S₅ := S.to E₅
  -- for kid in node[1:]
  refine W.hideL ?_
  intro K
  refine x_cons ?_
  refine W.hideL ?_
  intro K
  refine x_forJ <| e_sub <| e_local hn₅ rfl <| e_from1 fun h₆ sl _ e₆ _ hsl => t_tup_from (vs := kv) (tn₅.to e₆) hsl (by omega) fun h₇ tt e₇ _ ttt => src_tup R₁.hh ttt fun h₈ it St e₈ X s0 => ?_
  have E₇ := (E₅.trans e₆).trans e₇
  refine ⟨it, _, _, St, _, rfl, X, s0, e₈, fun i h' => ∃ m, Ext (· = L) h₇ h' ∧ h'.Ns L m ∧ m "node" = some (.ref nod), ⟨_, .refl, ns_to (ns_to hn₅ e₆) e₇, rfl⟩, ?_, ?_, ?_⟩
  · rintro i h h' ⟨m, e, n, q⟩ s
    exact ⟨m, e.step (s.mono fun _ => False.elim), ns_step n s (ns_some (ns_to (ns_to hn₅ e₆) e₇)), q⟩
  · rintro i v h' hi hv ⟨m, e, n, q⟩
    obtain ⟨j, hj, u', rfl⟩ := hkv.get hv
    obtain ⟨kid, hkid, hnum⟩ := hns.get hj
    have hlt : j < ts.length := (List.getElem?_eq_some_iff.mp hnum).1
    refine asg_local n fun h₉ e₉ n₉ => ?_
    have E₉ : Ext None h h₉ := (E₇.at e hL).at e₉ hL
    have S₉ := S.to E₉
    have bk₉ := bk.keep E₉
    obtain ⟨vs, lv, av⟩ := bk₉.nodes
    have c₉ : h₉.IsCell (L + 1) (some (.ref b.x)) := cell_to (cell_to (cell_to (cell_to (cell_to c₄ e₅) e₆) e₇) e cL) e₉ cL
    refine W.hideL ?_
    intro K
    refine x_cons ?_
    refine W.hideL ?_
    intro K
    refine x_if <| b_not <| b_chain2 <| e_int fun _ => e_local n₉ rfl <| o_le ⟨_, rfl, ?_⟩
    rw [if_pos (by simp)]
    refine c_bi B S₉ n_len <| i_cons <| e_attr <| e_cell rfl c₉ <| g_nodes B S₉ bk₉.obj <| i_nil ⟨S₉, c_len_list lv (by have := av.length; omega) fun _ => o_lt ⟨_, rfl, ?_⟩⟩
    rw [show decide ((j : Int) < (vs.length : Int)) = true from decide_eq_true (by have := av.length; omega), if_neg (by decide)]
    refine x_nil <| x_nil ⟨⟨_, e₉, ?_⟩, _, e.trans e₉, n₉, q⟩
    rintro a rfl
    exact ⟨ns_some (ns_to (ns_to hn₅ e₆) e₇), id⟩
  rintro h₉ ⟨m, e79, hn₉, mn⟩
  have E₉ : Ext None h h₉ := E₇.at e79 hL
  have S₉ := S.to E₉
  have bk₉ := bk.keep E₉
  have e49 : Ext (· = L) h₄ h₉ := (((e₅.trans e₆).trans e₇).of).trans e79
  have c₉ : h₉.IsCell (L + 1) (some (.ref b.x)) := cell_to c₄ e49 cL
  have tn₉ := tn₄.to e49
  obtain ⟨vsN, lN, aN⟩ := bk₉.nodes
  obtain ⟨ks', nmk', ak'⟩ := bk₉.nums
  obtain ⟨vsW, lW, aW⟩ := bk₉.wts
  obtain ⟨vsD, lD, aD⟩ := bk₉.dps
  have ob₉ := bk₉.obj
  have ap := bk.apart
  simp only [List.nodup_cons, List.mem_cons, List.not_mem_nil, or_false, not_or, List.nodup_nil, not_false_eq_true, and_true] at ap
  obtain ⟨⟨x1, x2, x3, x4, x5⟩, ⟨d1, d2, d3, d4⟩, ⟨n1, n2, n3⟩, ⟨m1, m2⟩, w1⟩ := ap
  have hlN : vsN.length = ts.length := aN.length.symm
  have hlK : ks'.length = ts.length := ak'.length.symm
  have hlW : vsW.length = ts.length := aW.length.symm
  have hlD : vsD.length = ts.length := aD.length.symm
  have bc : ∀ a, b.all a → L + 1 ≠ a := fun a q => (ne_new (bk.some a q) hc0).symm
  have bL' : ∀ a, b.all a → L ≠ a := fun a q => (bL a q).symm
  have ax : b.all b.x := .inl rfl
  have ad : b.all b.dx := .inr (.inl rfl)
  have an : b.all b.nd := .inr (.inr (.inl rfl))
  have am : b.all b.nm := .inr (.inr (.inr (.inl rfl)))
  have aw : b.all b.wt := .inr (.inr (.inr (.inr (.inl rfl))))
  have adp : b.all b.dp := .inr (.inr (.inr (.inr (.inr rfl))))
  have knot : (.inl t.op :: ns.map fun (n : Nat) => (.inr (n : Int) : Mix)) ∉ ks' := fun q => hin ((NodeK.mem ak' key bk.nd).mp q)
  -- self.numbers[node] = len(self.nodes)
  refine W.hideL ?_
  intro K
  refine x_cons ?_
  refine W.hideL ?_
  intro K
  refine x_setitem <| c_bi B S₉ n_len <| i_cons <| e_attr <| e_cell rfl c₉ <| g_nodes B S₉ ob₉ <| i_nil ⟨S₉, c_len_list lN (by omega) fun ul => ?_⟩
  refine e_attr <| e_cell rfl c₉ <| g_numbers B S₉ ob₉ <| e_local hn₉ mn ?_
  rw [show (vsN.length : Int) = (ks'.length : Int) by omega]
  refine s_num nmk' tn₉ it4 ui knot (by omega) fun h₁₀ e₁₀ nm₁₀ => ?_
  have ob₁₀ := ob₉.to e₁₀ x3 d2
  have c₁₀ := cell_to c₉ e₁₀ (bc _ am)
  have hn₁₀ := ns_to hn₉ e₁₀ (bL' _ am)
  have tn₁₀ := tn₉.to e₁₀
  have lN₁₀ := lN.to e₁₀ n1
  have lW₁₀ := lW.to e₁₀ (Ne.symm m1)
  have lD₁₀ := lD.to e₁₀ (Ne.symm m2)
  have E₁₀ : Ext b.mut h h₁₀ := E₉.of.trans (e₁₀.mono fun a q => .inr (.inl q))
  have bm : ∀ a, b.mut a → hb.get? a = none := fun a q => hbb a (Bk.mut_all q)
  have S₁₀ := S.to E₁₀ bm
  -- self.nodes.append(node)
  refine W.hideL ?_
  intro K
  refine x_cons ?_
  refine W.hideL ?_
  intro K
  refine x_expr <| m_list F.slot_list_append F.type_list_append <| e_attr <| e_cell rfl c₁₀ <| g_nodes B S₁₀ ob₁₀ ⟨b.nd, _, rfl, lN₁₀, i_cons <| e_local hn₁₀ mn <| i_nil <| c_append lN₁₀ (by omega) fun h₁₁ e₁₁ lN₁₁ => ⟨rfl, ?_⟩⟩
  have ob₁₁ := ob₁₀.to e₁₁ x2 d1
  have c₁₁ := cell_to c₁₀ e₁₁ (bc _ an)
  have hn₁₁ := ns_to hn₁₀ e₁₁ (bL' _ an)
  have tn₁₁ := tn₁₀.to e₁₁
  have nm₁₁ := nm₁₀.to e₁₁ (Ne.symm n1)
  have lW₁₁ := lW₁₀.to e₁₁ (Ne.symm n2)
  have lD₁₁ := lD₁₀.to e₁₁ (Ne.symm n3)
  have E₁₁ : Ext b.mut h h₁₁ := E₁₀.trans (e₁₁.mono fun a q => .inl q)
  have S₁₁ := S.to E₁₁ bm
  -- self.weights.append(1 + sum(..))
  refine W.hideL ?_
  intro K
  refine x_cons ?_
  refine W.hideL ?_
  intro K
  refine x_expr <| m_list F.slot_list_append F.type_list_append <| e_attr <| e_cell rfl c₁₁ <| g_weights B S₁₁ ob₁₁ ⟨b.wt, _, rfl, lW₁₁, i_cons <| e_bin <| e_int fun _ => c_bi B S₁₁ n_sum <| i_cons <| e_compJ [("self", L + 1)] rfl (by decide) rfl (by decide) <|
    e_sub <| e_local hn₁₁ mn <| e_from1 fun h₁₂ sl _ e₁₂ _ hsl => t_tup_from (vs := kv) (tn₁₁.to e₁₂) hsl (by omega) fun h₁₃ tt₂ e₁₃ _ ttt₂ => src_tup R₁.hh ttt₂ fun h₁₄ it2 St2 e₁₄ X2 s2 => ?_⟩
  have e1113 := e₁₂.trans e₁₃
  refine ⟨it2, _, _, St2, _, rfl, X2, s2, e₁₄, by omega, J2 None h₁₃ (fun _ (s : T) v => IntIs s.size v) t.kids, .zero, J2.stab fun _ _ _ _ q k => q, ?_, ?_⟩
  · intro i v ys h' C mC hi hv j hl nsC nC
    obtain ⟨jn, hj, u', rfl⟩ := hkv.get hv
    obtain ⟨kid, hkid, hnum⟩ := hns.get hj
    obtain ⟨wv, hwv, uw, rfl⟩ := aW.get' hnum
    have hlt : jn < ts.length := (List.getElem?_eq_some_iff.mp hnum).1
    refine asg_local nsC fun h₁₅ e₁₅ n₁₅ => ?_
    have e1115 : Ext None h₁₃ h₁₅ := j.1.at e₁₅ nC
    have S₁₅ := (S₁₁.to e1113).to e1115
    refine e_sub <| e_attr <| e_cell rfl (cell_to (cell_to c₁₁ e1113) e1115) <| g_weights B S₁₅ ((ob₁₁.to e1113).to e1115) <| e_local n₁₅ rfl <| t_list _ ((lW₁₁.to e1113).to e1115) (by omega) (by omega) (by simpa using hwv) ?_
    exact ⟨⟨_, e₁₅, fun b q => .inl q⟩, ⟨_, n₁₅⟩, j.snoc (fun _ _ _ _ q k => q) e₁₅ (by rintro b rfl; exact .inr nC) hkid ⟨uw, rfl⟩⟩
  intro ysW DW h₁₅ jW hylW lDW nDW
  have aYW := (jW.all (by have := hns.length; have := hkv.length; omega)).map
  have S₁₅ := (S₁₁.to e1113).to jW.1
  refine i_nil ⟨S₁₅, c_sum R₁.hh lDW aYW fun h₁₆ u₁₆ e₁₆ => o_add fun u₁₇ => i_nil ?_⟩
  have e1116 := (e1113.trans jW.1).trans e₁₆
  refine c_append (lW₁₁.to e1116) (by omega) fun h₁₇ e₁₇ lW₁₇ => ⟨rfl, ?_⟩
  rw [size_int] at lW₁₇
  have ob₁₇ := (ob₁₁.to e1116).to e₁₇ x4 d3
  have c₁₇ := cell_to (cell_to c₁₁ e1116) e₁₇ (bc _ aw)
  have hn₁₇ := ns_to (ns_to hn₁₁ e1116) e₁₇ (bL' _ aw)
  have tn₁₇ := (tn₁₁.to e1116).to e₁₇
  have nm₁₇ := (nm₁₁.to e1116).to e₁₇ m1
  have lN₁₇ := (lN₁₁.to e1116).to e₁₇ n2
  have lD₁₇ := (lD₁₁.to e1116).to e₁₇ (Ne.symm w1)
  have E₁₇ : Ext b.mut h h₁₇ := (E₁₁.trans e1116.of).trans (e₁₇.mono fun a q => .inr (.inr (.inl q)))
  have S₁₇ := S.to E₁₇ bm
  -- self.depths.append(1 + max(..))
  refine W.hideL ?_
  intro K
  refine x_cons ?_
  refine W.hideL ?_
  intro K
  refine x_expr <| m_list F.slot_list_append F.type_list_append <| e_attr <| e_cell rfl c₁₇ <| g_depths B S₁₇ ob₁₇ ⟨b.dp, _, rfl, lD₁₇, i_cons <| e_bin <| e_int fun _ => c_bi B S₁₇ n_max <| i_cons <| e_bin <| e_compJ [("self", L + 1)] rfl (by decide) rfl (by decide) <|
    e_sub <| e_local hn₁₇ mn <| e_from1 fun h₁₈ sl _ e₁₈ _ hsl => t_tup_from (vs := kv) (tn₁₇.to e₁₈) hsl (by omega) fun h₁₉ tt₃ e₁₉ _ ttt₃ => src_tup R₁.hh ttt₃ fun h₂₀ it3 St3 e₂₀ X3 s3 => ?_⟩
  have e1719 := e₁₈.trans e₁₉
  refine ⟨it3, _, _, St3, _, rfl, X3, s3, e₂₀, by omega, J2 None h₁₉ (fun _ (s : T) v => ∃ i, IntIs i v) t.kids, .zero, J2.stab fun _ _ _ _ q k => q, ?_, ?_⟩
  · intro i v ys h' C mC hi hv j hl nsC nC
    obtain ⟨jn, hj, u', rfl⟩ := hkv.get hv
    obtain ⟨kid, hkid, hnum⟩ := hns.get hj
    obtain ⟨wv, hwv, iw, uw, rfl⟩ := aD.get' hnum
    have hlt : jn < ts.length := (List.getElem?_eq_some_iff.mp hnum).1
    refine asg_local nsC fun h₂₁ e₂₁ n₂₁ => ?_
    have e1921 : Ext None h₁₉ h₂₁ := j.1.at e₂₁ nC
    have S₂₁ := (S₁₇.to e1719).to e1921
    refine e_sub <| e_attr <| e_cell rfl (cell_to (cell_to c₁₇ e1719) e1921) <| g_depths B S₂₁ ((ob₁₇.to e1719).to e1921) <| e_local n₂₁ rfl <| t_list _ ((lD₁₇.to e1719).to e1921) (by omega) (by omega) (by simpa using hwv) ?_
    exact ⟨⟨_, e₂₁, fun b q => .inl q⟩, ⟨_, n₂₁⟩, j.snoc (fun _ _ _ _ q k => q) e₂₁ (by rintro b rfl; exact .inr nC) hkid ⟨iw, uw, rfl⟩⟩
  intro ysD DD h₂₁ jD hylD lDD nDD
  obtain ⟨is, ais⟩ := (jD.all (by have := hns.length; have := hkv.length; omega)).ints
  have S₂₁ := (S₁₇.to e1719).to jD.1
  refine e_lst <| i_cons <| e_int fun u₂₂ => i_nil ⟨Nat.le_of_ble_eq_true rfl, fun h₂₂ z e₂₂ _ lz => o_add_lst (lDD.to e₂₂) lz (by simp; omega) fun h₂₃ DM e₂₃ _ lDM => i_nil ⟨(S₂₁.to e₂₂).to e₂₃, ?_⟩⟩
  refine c_max R₁.hh lDM (ais.append (.cons ⟨u₂₂, rfl⟩ .nil)) (by simp) fun h₂₄ im um e₂₄ => o_add fun u₂₄ => i_nil ?_
  have e1724 := (((e1719.trans jD.1).trans e₂₂).trans e₂₃).trans e₂₄
  refine c_append (lD₁₇.to e1724) (by omega) fun h₂₅ e₂₅ lD₂₅ => ⟨rfl, ?_⟩
  have ob₂₅ := (ob₁₇.to e1724).to e₂₅ x5 d4
  have c₂₅ := cell_to (cell_to c₁₇ e1724) e₂₅ (bc _ adp)
  have nm₂₅ := (nm₁₇.to e1724).to e₂₅ m2
  have lN₂₅ := (lN₁₇.to e1724).to e₂₅ n3
  have lW₂₅ := (lW₁₇.to e1724).to e₂₅ w1
  have E₂₅ : Ext b.mut h h₂₅ := (E₁₇.trans e1724.of).trans (e₂₅.mono fun a q => .inr (.inr (.inr q)))
  have S₂₅ := S.to E₂₅ bm
  have t925 : Tk h₉ h₂₅ := tup_trans' (tup_trans' (tup_trans' e₁₀.tup e₁₁.tup) e1116.tup) (tup_trans' e₁₇.tup (tup_trans' e1724.tup e₂₅.tup))
  -- return len(self.nodes) - 1
  refine W.hideL ?_
  intro K
  refine x_cons ?_
  refine W.hideL ?_
  intro K
  refine x_ret <| e_bin <| c_bi B S₂₅ n_len <| i_cons <| e_attr <| e_cell rfl c₂₅ <| g_nodes B S₂₅ ob₂₅ <| i_nil ⟨S₂₅, c_len_list lN₂₅ (by simp; omega) fun _ => e_int fun _ => o_sub fun ur => ?_⟩
  have hnum : (ts ++ [t])[ts.length]? = some t := by simp
  rw [show (((vsN ++ [Value.ref nod]).length : Int) - 1) = (ts.length : Int) by simp; omega]
  refine k h₂₅ ts.length ur (ts ++ [t]) E₂₅ ⟨ob₂₅, ⟨_, lN₂₅, ?_⟩, ⟨_, nm₂₅, ?_⟩, ⟨_, lW₂₅, ?_⟩, ⟨_, lD₂₅, ?_⟩, bk.apart, ?_, ?_⟩ hnum (.inr rfl)
  · exact (aN.imp fun _ _ q => (q.tk t925).more).snoc ⟨nod, u, ns, kv, rfl, tn₉.tk t925, hns.imp fun _ _ => Num.more, hkv⟩
  · exact (ak'.imp fun _ _ q => q.more).snoc ⟨ns, hns.imp fun _ _ => Num.more, rfl⟩
  · exact aW.snoc ⟨u₁₇, rfl⟩
  · exact aD.snoc ⟨_, u₂₄, rfl⟩
  · rw [List.nodup_append]
    refine ⟨bk.nd, by simp, ?_⟩
    intro a ha c hc
    rw [List.mem_singleton] at hc
    rintro rfl
    exact hin (hc ▸ ha)
  · intro i s hs kid hk
    by_cases hi : i < ts.length
    · rw [List.getElem?_append_left hi] at hs
      obtain ⟨j, hj, q⟩ := bk.low i s hs kid hk
      exact ⟨j, hj, Num.more q⟩
    · have hil := (List.getElem?_eq_some_iff.mp hs).1
      simp at hil
      have : i = ts.length := by omega
      subst this
      rw [hnum] at hs
      cases hs
      obtain ⟨j, hj⟩ := List.mem_iff_getElem?.mp hk
      obtain ⟨n, _, q⟩ := hns.get' hj
      exact ⟨n, (List.getElem?_eq_some_iff.mp q).1, Num.more q⟩
end
end Mine

end

section
open PySem PySem.W PySem.Calls PyProof.Rows
namespace Mine

theorem NumAt.keeps {prog : Program} {w : World} {h h₁ : Heap} {d : Addr} {ks : List (List Mix)} (x : NumAt prog w h d ks) (k : ∀ o, h.get? d = Option.some o → h₁.get? d = Option.some o) (t : Tk h h₁) : NumAt prog w h₁ d ks :=
  let ⟨a, o, es, ep, xs, p, q, r, s, t', u, v, z⟩ := x; ⟨a, o, es, ep, xs, k _ p, q, r, s, t', u, fun y hy => let ⟨vs, b, c⟩ := v y hy; ⟨vs, b.tk t, c⟩, z⟩
theorem LstAt.keeps {h h₁ : Heap} {a : Addr} {vs : List Value} (x : LstAt h a vs) (k : ∀ o, h.get? a = Option.some o → h₁.get? a = Option.some o) : LstAt h₁ a vs := let ⟨n, p⟩ := x; ⟨n, k _ p⟩
theorem BankAt.keeps {prog : Program} {w : World} {h h₁ : Heap} {b : Bk} {ts : List T} (x : BankAt prog w h b ts) (k : ∀ a o, b.all a → h.get? a = Option.some o → h₁.get? a = Option.some o) (t : Tk h h₁) : BankAt prog w h₁ b ts where
  obj := ⟨k _ _ (.inl rfl) x.obj.1, let ⟨a1, a2, a3, a4, t1, t2, t3, t4, n, p⟩ := x.obj.2; ⟨a1, a2, a3, a4, t1, t2, t3, t4, n, k _ _ (.inr (.inl rfl)) p⟩⟩
  nodes := let ⟨vs, p, q⟩ := x.nodes; ⟨vs, p.keeps fun o => k _ o (.inr (.inr (.inl rfl))), q.imp fun _ _ r => r.tk t⟩
  nums := let ⟨ks, p, q⟩ := x.nums; ⟨ks, p.keeps (fun o => k _ o (.inr (.inr (.inr (.inl rfl))))) t, q⟩
  wts := let ⟨vs, p, q⟩ := x.wts; ⟨vs, p.keeps fun o => k _ o (.inr (.inr (.inr (.inr (.inl rfl))))), q⟩
  dps := let ⟨vs, p, q⟩ := x.dps; ⟨vs, p.keeps fun o => k _ o (.inr (.inr (.inr (.inr (.inr rfl))))), q⟩
  apart := x.apart
  nd := x.nd
  low := x.low
theorem BankAt.step {prog : Program} {w : World} {Y : Addr → Prop} {h h₁ h₂ : Heap} {b : Bk} {ts : List T} (x : BankAt prog w h b ts) (s : Step Y h₁ h h₂) (old : ∀ a, b.all a → h₁.get? a ≠ none) (n : ∀ a, b.all a → ¬ Y a) : BankAt prog w h₂ b ts :=
  x.keeps (fun a o q r => s.keep a o (old a q) (n a q) r) s.tk

noncomputable def GoodT (t : T) : Prop := ∀ s, s ∈ t.subs → GoodOp s.op
theorem GoodT.op {t : T} (x : GoodT t) : GoodOp t.op := x t (by rw [T.subs_eq]; exact .head _)
theorem T.kid_subs {t k : T} (h : k ∈ t.kids) : ∀ s, s ∈ k.subs → s ∈ t.subs := fun s hs => by
  rw [T.subs_eq t]; exact .tail _ (List.mem_flatMap.mpr ⟨k, h, hs⟩)
theorem GoodT.kid {t k : T} (x : GoodT t) (h : k ∈ t.kids) : GoodT k := fun s hs => x s (T.kid_subs h s hs)
theorem T.self_mem (t : T) : t ∈ t.subs := by rw [T.subs_eq]; exact .head _

section
variable {prog : Program} {w : World} {g : Shared} {hb : Heap} {env : Env}

theorem put_all_ok : ∀ (d : Nat) {A : Around} {h : Heap} {b : Bk} {ts : List T} {t : T} {v : Value} {Q : Value → Heap → Prop} (B : Base w hb) (S : St hb h) (R : Rm A (d + 5)) (bk : BankAt prog w h b ts) (hbb : ∀ a, b.all a → hb.get? a = none)
    (ht : TermAt h t v) (gt : GoodT t) (hd : t.deep ≤ d) (hz : ts.length + t.size ≤ 2000)
    (k : ∀ h₁ (n : Nat) u (us : List T), Ext b.mut h h₁ → BankAt prog w h₁ b (ts ++ us) → (ts ++ us)[n]? = some t → us.length ≤ t.size → (∀ x, x ∈ us → x ∈ t.subs) → Q (.int n u) h₁),
    W prog w g A (call (.ref 122) [.ref b.x, v]) Q h := by
  intro d
  induction d with
  | zero => intro A h b ts t v Q B S R bk hbb ht gt hd; exact absurd t.deep_pos (by omega)
  | succ d ih =>
  intro A h b ts t v Q B S R bk hbb ht gt hd hz k
  refine call_defC (k := d + 5) [("self", .ref b.x), ("t", v)] B S (R.mono (by omega)) rfl rfl rfl rfl rfl rfl rfl fun h₁ L e₁ S₁ R₁ hL hC hn₁ hcs => ?_
  have hc0 : h.get? (L + 1) = none := hC "self" (L + 1) (.head _)
  have hc₁ : h₁.IsCell (L + 1) (some (.ref b.x)) := hcs "self" (L + 1) rfl
  have bk₁ := bk.keep e₁
  obtain ⟨a, u, ks, rfl, ta, ak⟩ := (ht.to e₁).view
  have hkl : ks.length ≤ 2 := ak.length ▸ t.kids_len
  have bm : ∀ a, b.mut a → hb.get? a = none := fun a q => hbb a (Bk.mut_all q)
  refine W.hideL ?_
  intro K
  refine x_cons ?_
  refine W.hideL ?_
  intro K
  refine x_ret <| m_bank B f_take rfl (fun _ _ _ _ _ _ _ _ _ _ _ _ => rfl) <| e_cell rfl hc₁ ⟨b.x, b.dx, b.nd, b.nm, b.wt, b.dp, rfl, S₁, bk₁.obj, i_cons <| e_sub <| e_local hn₁ rfl <| e_int fun _ => t_tup (.str t.op u) ta (by decide) (by decide) rfl <|
    i_cons <| c_bi B S₁ n_tuple <| i_cons <| e_compJ [("self", L + 1)] rfl (by decide) rfl (by decide) <| e_sub <| e_local hn₁ rfl <| e_from1 fun h₂ sl _ e₂ _ hsl => t_tup_from (vs := ks) (ta.to e₂) hsl (by omega) fun h₃ tt e₃ _ ttt => src_tup R₁.hh ttt fun h₄ it Sr e₄ X s0 => ?_⟩
  have E₃ : Ext None h h₃ := (e₁.trans e₂).trans e₃
  have e13 : Ext None h₁ h₃ := e₂.trans e₃
  have S₃ := S.to E₃
  have bk₃ := bk.keep E₃
  have old : ∀ a, b.all a → h₃.get? a ≠ none := bk₃.some
  have c₃ : h₃.IsCell (L + 1) (some (.ref b.x)) := cell_to hc₁ e13
  have cb : ∀ a, b.mut a → L + 1 ≠ a := fun a q => (ne_new (bk.some a (Bk.mut_all q)) hc0).symm
  refine ⟨it, _, _, Sr, _, rfl, X, s0, e₄, by omega, fun i ys h' => ∃ us ns, Ext b.mut h₃ h' ∧ BankAt prog w h' b (ts ++ us) ∧ us.length ≤ ((t.kids.take i).map T.size).sum ∧ (∀ x, x ∈ us → x ∈ t.subs) ∧ All2 (Num (ts ++ us)) (t.kids.take i) ns ∧ All2 NatIs ns ys,
    ⟨[], [], .refl, by simpa using bk₃, Nat.zero_le _, by simp, .nil, .nil⟩, ?_, ?_, ?_⟩
  · rintro i ys h h' ⟨us, ns, e, bk, a1, a2, a3, a4⟩ s
    exact ⟨us, ns, e.step (s.mono fun _ => False.elim), bk.step s old fun _ _ => id, a1, a2, a3, a4⟩
  · rintro i v ys h' C mC hi hv ⟨us, ns, e, bk', a1, a2, a3, a4⟩ hl nsC nC
    obtain ⟨kid, hkid, tkid⟩ := ak.get hv
    have hmem : kid ∈ t.kids := List.mem_of_getElem? hkid
    have hkd := T.kid_deep hmem
    have hsum : ((t.kids.take i).map T.size).sum + kid.size + 1 ≤ t.size := by
      have h1 : t.kids.take (i + 1) = t.kids.take i ++ [kid] := take_snoc hkid
      have h2 : ((t.kids.take (i + 1)).map T.size).sum ≤ (t.kids.map T.size).sum := by
        have e : t.kids = t.kids.take (i + 1) ++ t.kids.drop (i + 1) := (List.take_append_drop _ _).symm
        have := congrArg (fun l => (List.map T.size l).sum) e
        simp only [List.map_append, List.sum_append] at this
        omega
      rw [h1] at h2
      simp only [List.map_append, List.sum_append, List.map_cons, List.map_nil, List.sum_cons, List.sum_nil] at h2
      have := t.size_eq
      omega
    refine asg_local nsC fun h₅ e₅ n₅ => ?_
    have bC : ∀ a, b.all a → ¬ (a = C) := fun a q r => old a q (r ▸ nC)
    have bk₅ := bk'.to e₅ bC
    have c₅ : h₅.IsCell (L + 1) (some (.ref b.x)) := cell_to (cell_to c₃ e fun q => cb _ q rfl) e₅ (by rintro rfl; exact cell_some c₃ nC)
    have S₅ : St hb h₅ := (S₃.to e bm).to e₅ (by rintro a rfl; exact S₃.none nC)
    refine m_bank B f_put_all rfl (fun _ _ _ _ _ _ _ _ _ _ _ _ => rfl) <| e_cell rfl c₅ ⟨b.x, b.dx, b.nd, b.nm, b.wt, b.dp, rfl, S₅, bk₅.obj, i_cons <| e_local n₅ rfl <| i_nil ⟨S₅, ?_⟩⟩
    have tk5 : TermAt h₅ kid v := ((tkid.to e13).to e).to e₅
    refine ih B S₅ R₁ bk₅ hbb tk5 (gt.kid hmem) (by omega) (by rw [List.length_append]; omega) fun h₆ n u us' e₆ bk₆ hn hul hus => ?_
    rw [List.append_assoc] at bk₆ hn
    refine ⟨⟨fun a => a = C ∨ b.mut a, (e₅.mono fun _ => .inl).trans (e₆.mono fun _ => .inr), ?_⟩, ⟨_, ns_to n₅ e₆ fun q => bC _ (Bk.mut_all q) rfl⟩, us ++ us', ns ++ [n], ?_, bk₆, ?_, ?_, ?_, ?_⟩
    · rintro a (q | q)
      · exact .inl q
      · exact .inr ⟨old a (Bk.mut_all q), id⟩
    · refine (e.trans' e₅ ?_).trans e₆
      rintro a rfl
      exact .inr nC
    · rw [take_snoc hkid]
      simp only [List.map_append, List.sum_append, List.length_append, List.map_cons, List.map_nil, List.sum_cons, List.sum_nil]
      omega
    · intro x hx
      rcases List.mem_append.mp hx with hx | hx
      · exact a2 x hx
      · exact T.kid_subs hmem x (hus x hx)
    · rw [take_snoc hkid, ← List.append_assoc]
      refine (a3.imp fun _ _ => Num.more).snoc ?_
      show _ = _
      rw [List.append_assoc]; exact hn
    · exact a4.snoc ⟨u, rfl⟩
  rintro ys D h₅ ⟨us, ns, e, bk₅, a1, a2, a3, a4⟩ hyl lD nD
  have htk : t.kids.take ks.length = t.kids := List.take_of_length_le (by rw [ak.length]; exact Nat.le_refl _)
  rw [htk] at a1 a3
  have S₅ : St hb h₅ := S₃.to e bm
  refine i_nil ⟨S₅, c_tuple_lst lD (by omega) fun h₆ kt e₆ _ tkt => i_nil ⟨S₅.to e₆, ?_⟩⟩
  have hul : us.length + 1 ≤ t.size := by have := t.size_eq; omega
  refine take_ok B (S₅.to e₆) (R₁.mono (by omega)) (bk₅.keep e₆) hbb (by rw [List.length_append]; omega) gt.op a3 tkt a4 fun h₇ n u' ts' e₇ bk₇ hn hor => ?_
  have E₇ : Ext b.mut h h₇ := ((E₃.of.trans e).trans e₆.of).trans e₇
  rcases hor with rfl | rfl
  · exact k h₇ n u' us E₇ bk₇ hn (by omega) a2
  · rw [List.append_assoc] at bk₇ hn
    refine k h₇ n u' (us ++ [t]) E₇ bk₇ hn (by rw [List.length_append]; exact hul) fun x hx => ?_
    rcases List.mem_append.mp hx with hx | hx
    · exact a2 x hx
    · rw [List.mem_singleton] at hx; subst hx; exact T.self_mem _
end
end Mine

end

section
open PySem PySem.W PySem.Calls PyProof.Rows
namespace Mine
section
variable {prog : Program} {w : World} {g : Shared} {hb : Heap} {A : Around} {h : Heap} {env : Env}

theorem put_ok {b : Bk} {ts : List T} {t : T} {v : Value} {Q : Value → Heap → Prop} (B : Base w hb) (S : St hb h) (R : Rm A 30) (bk : BankAt prog w h b ts) (hbb : ∀ a, b.all a → hb.get? a = none)
    (ht : TermAt h t v) (gt : GoodT t) (hd : t.deep ≤ 19) (hz : ts.length + t.size ≤ 2000) (hs : t.size ≤ 1000)
    (k : ∀ h₁ (n : Nat) u (us : List T), Ext b.mut h h₁ → BankAt prog w h₁ b (ts ++ us) → (ts ++ us)[n]? = some t → us.length ≤ t.size → Q (.int n u) h₁) :
    W prog w g A (call (.ref 117) [.ref b.x, v]) Q h := by
  refine call_def (k := 29) [("self", .ref b.x), ("t", v)] B S R rfl rfl rfl rfl (by decide) rfl rfl rfl fun h₁ L e₁ S₁ R₁ hL hn₁ => ?_
  refine W.hideL ?_
  intro K
  refine x_cons ?_
  refine W.hideL ?_
  intro K
  refine x_forJ <| c_glob B S₁ n_parts <| i_cons <| e_local hn₁ rfl <| i_nil ⟨S₁, parts_ok 19 B S₁ (R₁.mono (by omega)) (ht.to e₁) hd (by omega) (by omega) fun h₂ la vs e₂ nla lla apl => src_list R₁.hh lla fun h₃ it Sr e₃ X s0 => ?_⟩
  have E₂ := e₁.trans e₂
  have hn₂ := ns_to hn₁ e₂
  have laL : la ≠ L := (ne_new (ns_some hn₁) nla).symm
  refine ⟨it, _, _, Sr, _, rfl, X, s0, e₃, fun i h' => ∃ m, Ext (· = L) h₂ h' ∧ h'.Ns L m ∧ m "self" = some (.ref b.x) ∧ m "t" = some v, ⟨_, .refl, hn₂, rfl, rfl⟩, ?_, ?_, ?_⟩
  · rintro i h h' ⟨m, e, n, q⟩ s
    exact ⟨m, e.step (s.mono fun _ => False.elim), ns_step n s (ns_some hn₂), q⟩
  · rintro i v' h' hi hv ⟨m, e, n, ms, mt⟩
    obtain ⟨s, hs, a, p, part, ps, rfl, ta, tpart, tps, _⟩ := apl.get hv
    refine asg_tup R₁.hh (ta.to e) rfl fun h₄ e₄ => aio_cons <| asg_local (ns_to n e₄) fun h₅ e₅ n₅ => aio_cons <| asg_local n₅ fun h₆ e₆ n₆ => aio_nil ?_
    have e26 : Ext (· = L) h₂ h₆ := ((e.trans e₄.of).trans e₅).trans e₆
    have E₆ : Ext None h h₆ := E₂.at e26 hL
    have S₆ := S.to E₆
    have bk₆ := bk.keep E₆
    obtain ⟨pa, u, ks, rfl, tpa, ak⟩ := (tpart.to e26).view
    refine W.hideL ?_
    intro K
    refine x_cons ?_
    refine W.hideL ?_
    intro K
    refine x_expr <| m_bank B f_require rfl (fun _ _ _ _ _ _ _ _ _ _ _ _ => rfl) <| e_local n₆ ms ⟨b.x, b.dx, b.nd, b.nm, b.wt, b.dp, rfl, S₆, bk₆.obj, i_cons <| e_sub <| e_local n₆ rfl <| e_int fun _ => t_tup (.str s.op u) tpa (by decide) (by decide) rfl <| i_nil ⟨S₆, require_ok B S₆ (R₁.mono (by omega)) (gt s (List.mem_of_getElem? hs)) fun h₇ e₇ => ⟨rfl, x_nil ?_⟩⟩⟩
    have e27 := e26.trans e₇.of
    refine ⟨⟨fun a => a = L, ?_, ?_⟩, _, e27, ns_to n₆ e₇, ms, mt⟩
    · exact (e₄.of.trans e₅).trans (e₆.trans e₇.of)
    · rintro b rfl
      exact ⟨ns_some hn₂, fun q => laL q.symm⟩
  rintro h₇ ⟨m, e, n, ms, mt⟩
  have E₇ : Ext None h h₇ := E₂.at e hL
  have S₇ := S.to E₇
  have bk₇ := bk.keep E₇
  refine W.hideL ?_
  intro K
  refine x_cons ?_
  refine W.hideL ?_
  intro K
  refine x_ret <| m_bank B f_put_all rfl (fun _ _ _ _ _ _ _ _ _ _ _ _ => rfl) <| e_local n ms ⟨b.x, b.dx, b.nd, b.nm, b.wt, b.dp, rfl, S₇, bk₇.obj, i_cons <| e_local n mt <| i_nil ⟨S₇, ?_⟩⟩
  refine put_all_ok 19 B S₇ (R₁.mono (by omega)) bk₇ hbb (ht.to E₇) gt hd (by omega) fun h₈ n u us e₈ bk₈ hn hul _ => k h₈ n u us (E₇.of.trans e₈) bk₈ hn hul

/-- the def called as code (of __init__) -/
theorem code_def1 {k : Nat} {name qual : Str} {params : Arguments} {body : List Stmt} {scope : Scope} {dV kV doc pm cdv ct oc : Value} {an od : Option Addr} {osl : Array (Option Value)} {f : Addr}
    {args : List Value} (binds : List (Str × Value)) {Q : Value → Heap → Prop} {n : Nat}
    (B : Base w hb) (S : St hb h) (R : Rm A (k + 1))
    (ho : (KK w).lookup f = some ⟨oc, od, .func (fnOf name qual params body scope dV kV doc pm an cdv ct), osl⟩) (hcd : codeIn (KK w) cdv qual = true)
    (hbind : bindArgs (fnOf name qual params body scope dV kV doc pm an cdv ct) ⟨args, []⟩ = pure binds)
    (hloc : (binds.all fun x => decide (scope.names.lookup x.1 = some .local)) = true)
    (hcell : ∀ x ∈ scope.names, x.2 ≠ .cell)
    (hco : scope.isCoroutine = false) (hgen : scope.isGenerator = false) (hk : scope.kind = .function)
    (H : ∀ h₁ L, Ext None h h₁ → St hb h₁ → Rm (A.deeper (envOf qual scope L f cdv)) k → h.get? L = none → h₁.Ns L (fun x => binds.reverse.lookup x) →
      W prog w g (A.deeper (envOf qual scope L f cdv)) (execs body (envOf qual scope L f cdv)) (fun fl h' => Q (match fl with | .ret v => v | _ => .none) h') h₁) :
    codeAny (model prog w) A (.call (.ref f) ⟨args, []⟩) (fun r s' => match r with | .ok (.ret v) => Post g Q v s' | _ => False) (sh g h n) := by
  obtain ⟨p, loose, mg, mb, T⟩ := B.T
  refine codeAny_call_def (fd := fnOf name qual params body scope dV kV doc pm an cdv ct) (body := body) (binds := binds) (by have := R.depth; omega) (S.K B _ _ ho) rfl (T.nolimit.keeps S)
    (codeRec_of (S.K B) hcd) rfl (BindsTo.of_eq hbind) hcell (locs hloc) (fun h₀ hns hk₀ => ?_) hco hgen hk
  have e : Ext None h h₀ := Ext.grown hk₀
  exact (H h₀ h.objs.size e (S.to e) R.deeper (size_none _) hns).then fun _ _ _ x => .mk x

/-- Bank() -/
theorem new_ok {Q : Value → Heap → Prop} (B : Base w hb) (S : St hb h) (R : Rm A 5) (k : ∀ h₁ (b : Bk), Ext None h h₁ → (∀ a, b.all a → h.get? a = none) → BankAt prog w h₁ b [] → Q (.ref b.x) h₁) : W prog w g A (call (.ref 179) []) Q h := by
  refine ⟨fun n => wpAny_call ?_⟩
  refine make_core (makes_of (S.K B) kMakes) (looks_findIn (S.K B) f_init.1) (fun self => bind_fn (S.K B) self f_init.2) (.inl rfl) ?_
  have hdx : h.get? h.objs.size = none := size_none h
  have hx : h.get? (h.objs.size + 1) = none := by
    cases q : h.get? (h.objs.size + 1) with
    | none => rfl
    | some o => exact absurd (Heap.lt_size q) (Nat.not_lt_of_le (Nat.le_succ _))
  have e0 : Ext None h ((h.push emptyDict).push (instObj 179 h.objs.size)) := Ext.push.trans Ext.push
  have sz : (h.push emptyDict).objs.size = h.objs.size + 1 := Heap.size_push ..
  have ox : ((h.push emptyDict).push (instObj 179 h.objs.size)).get? (h.objs.size + 1) = some (instO h.objs.size) := by rw [← sz]; exact Heap.get?_push_size _ rfl
  have od : ((h.push emptyDict).push (instObj 179 h.objs.size)).get? h.objs.size = some (dictOf [] 0) := Heap.get?_push_of_some _ (Heap.get?_push_size _ rfl)
  have xd : h.objs.size + 1 ≠ h.objs.size := Nat.succ_ne_self _
  generalize ((h.push emptyDict).push (instObj 179 h.objs.size)) = h0 at e0 ox od ⊢
  generalize h.objs.size = dx at hdx hx ox od xd ⊢
  have S0 := S.to e0
  have R1 : Rm (A.under (.builtin "type.__call__" ⟨[.ref 179], []⟩)) 2 := ⟨R.hh, by have := R.depth; show A.depth + 1 + 2 < _; omega, by have := R.units; show A.units + 1 + 100 + 10 * 2 < _; omega⟩
  refine codeAny_mono (code_def1 (k := 1) (g := g) (n := n) (Q := fun v h₁ => v = .none ∧ Q (.ref (dx + 1)) h₁) [("self", .ref (dx + 1))] B S0 R1 rfl rfl rfl rfl (by decide) rfl rfl rfl fun h₁ L e₁ S₁ R₁ hL hn₁ => ?_) fun r s' q => ?_
  · have ox₁ := e₁.keep _ _ id ox
    have od₁ := e₁.keep _ _ id od
    have xL : dx + 1 ≠ L := ne_new (by rw [ox]; exact nofun) hL
    have dL : dx ≠ L := ne_new (by rw [od]; exact nofun) hL
    have dh : hb.get? dx = none := S.none hdx
    -- nodes
    refine W.hideL ?_
    intro K
    refine x_cons ?_
    refine W.hideL ?_
    intro K
    refine x_setattr <| e_lst <| i_nil ⟨Nat.le_of_ble_eq_true rfl, fun h₂ nd e₂ nn lnd => e_local (ns_to hn₁ e₂) rfl <| s_attr B (S₁.to e₂) (e₂.keep _ _ id ox₁) (e₂.keep _ _ id od₁) rfl rfl (fun _ => Nat.le_of_ble_eq_true rfl) fun h₃ a1 t1 n1 e₃ od₃ => ?_⟩
    have ndd : nd ≠ dx := (ne_new (by rw [od₁]; exact nofun) nn).symm
    have ndx : nd ≠ dx + 1 := (ne_new (by rw [ox₁]; exact nofun) nn).symm
    have E₃ : Ext None h h₃ := ((e0.trans e₁).trans e₂).at e₃ hdx
    have S₃ := S.to E₃
    have ox₃ := e₃.keep _ _ xd (e₂.keep _ _ id ox₁)
    have hn₃ := ns_to (ns_to hn₁ e₂) e₃ dL.symm
    have lnd₃ := lnd.to e₃ ndd
    -- numbers
    refine W.hideL ?_
    intro K
    refine x_cons ?_
    refine W.hideL ?_
    intro K
    refine x_setattr <| e_dict0 B S₃ fun h₄ nm e₄ nn4 nmm od4 => e_local (ns_to hn₃ e₄) rfl <| s_attr B (S₃.to e₄) (e₄.keep _ _ id ox₃) (e₄.keep _ _ id od₃) rfl rfl (fun _ => Nat.le_of_ble_eq_true rfl) fun h₅ a2 t2 n2 e₅ od₅ => ?_
    have nmd : nm ≠ dx := (ne_new (by rw [od₃]; exact nofun) nn4).symm
    have nmx : nm ≠ dx + 1 := (ne_new (by rw [ox₃]; exact nofun) nn4).symm
    have nmn : nm ≠ nd := (ne_new lnd₃.some nn4).symm
    have E₅ : Ext None h h₅ := (E₃.trans e₄).at e₅ hdx
    have S₅ := S.to E₅
    have ox₅ := e₅.keep _ _ xd (e₄.keep _ _ id ox₃)
    have hn₅ := ns_to (ns_to hn₃ e₄) e₅ dL.symm
    have lnd₅ := (lnd₃.to e₄).to e₅ ndd
    have nm₅ : NumAt prog w h₅ nm [] := NumAt.new nmm (e₅.keep _ _ nmd od4)
    -- weights
    refine W.hideL ?_
    intro K
    refine x_cons ?_
    refine W.hideL ?_
    intro K
    refine x_setattr <| e_lst <| i_nil ⟨Nat.le_of_ble_eq_true rfl, fun h₆ wt e₆ nn6 lwt => e_local (ns_to hn₅ e₆) rfl <| s_attr B (S₅.to e₆) (e₆.keep _ _ id ox₅) (e₆.keep _ _ id od₅) rfl rfl (fun _ => Nat.le_of_ble_eq_true rfl) fun h₇ a3 t3 n3 e₇ od₇ => ?_⟩
    have wtd : wt ≠ dx := (ne_new (by rw [od₅]; exact nofun) nn6).symm
    have wtx : wt ≠ dx + 1 := (ne_new (by rw [ox₅]; exact nofun) nn6).symm
    have wtn : wt ≠ nd := (ne_new lnd₅.some nn6).symm
    have wtm : wt ≠ nm := (ne_new nm₅.some nn6).symm
    have E₇ : Ext None h h₇ := (E₅.trans e₆).at e₇ hdx
    have S₇ := S.to E₇
    have ox₇ := e₇.keep _ _ xd (e₆.keep _ _ id ox₅)
    have hn₇ := ns_to (ns_to hn₅ e₆) e₇ dL.symm
    have lnd₇ := (lnd₅.to e₆).to e₇ ndd
    have nm₇ := (nm₅.to e₆).to e₇ nmd
    have lwt₇ := lwt.to e₇ wtd
    -- depths
    refine W.hideL ?_
    intro K
    refine x_cons ?_
    refine W.hideL ?_
    intro K
    refine x_setattr <| e_lst <| i_nil ⟨Nat.le_of_ble_eq_true rfl, fun h₈ dp e₈ nn8 ldp => e_local (ns_to hn₇ e₈) rfl <| s_attr B (S₇.to e₈) (e₈.keep _ _ id ox₇) (e₈.keep _ _ id od₇) rfl rfl (fun _ => Nat.le_of_ble_eq_true rfl) fun h₉ a4 t4 n4 e₉ od₉ => ?_⟩
    have dpd : dp ≠ dx := (ne_new (by rw [od₇]; exact nofun) nn8).symm
    have dpx : dp ≠ dx + 1 := (ne_new (by rw [ox₇]; exact nofun) nn8).symm
    have dpn : dp ≠ nd := (ne_new lnd₇.some nn8).symm
    have dpm : dp ≠ nm := (ne_new nm₇.some nn8).symm
    have dpw : dp ≠ wt := (ne_new lwt₇.some nn8).symm
    have E₉ : Ext None h h₉ := (E₇.trans e₈).at e₉ hdx
    refine x_nil ⟨rfl, k h₉ ⟨dx + 1, dx, nd, nm, wt, dp⟩ E₉ ?_ ⟨⟨e₉.keep _ _ xd (e₈.keep _ _ id ox₇), a1, a2, a3, a4, t1, t2, t3, t4, n4, od₉⟩, ⟨[], (lnd₇.to e₈).to e₉ ndd, .nil⟩, ⟨[], (nm₇.to e₈).to e₉ nmd, .nil⟩, ⟨[], (lwt₇.to e₈).to e₉ wtd, .nil⟩, ⟨[], ldp.to e₉ dpd, .nil⟩, ?_, .nil, by simp⟩⟩
    · rintro a (rfl | rfl | rfl | rfl | rfl | rfl)
      · exact hx
      · exact hdx
      · exact (e0.trans e₁).new nn
      · exact E₃.new nn4
      · exact E₅.new nn6
      · exact E₇.new nn8
    · simp [xd, xd.symm, ndd.symm, ndx.symm, nmd.symm, nmx.symm, nmn.symm, wtd.symm, wtx.symm, wtn.symm, wtm.symm, dpd.symm, dpx.symm, dpn.symm, dpm.symm, dpw.symm]
  · rcases r with e | (v | _ | _ | _) <;> first | exact q.elim | skip
    obtain ⟨h', m, rfl, rfl, q⟩ := q
    exact ⟨rfl, .mk q⟩
end
end Mine

end

section
open PySem PySem.W PySem.Calls PyProof.Rows
namespace Mine
section
variable {prog : Program} {w : World} {g : Shared} {hb : Heap} {A : Around} {h : Heap} {env : Env}

theorem int_is {i : Int} {u : Tok} : (intKind prog w).is i (.int i u) = true := by
  have e : (intKind prog w).is = Value.isInt := rfl
  rw [e]; simp [Value.isInt]
theorem All2.of_get {α β : Type} {R : α → β → Prop} : ∀ {as : List α} {bs : List β}, as.length = bs.length → (∀ (i : Nat) (b : β), bs[i]? = some b → ∃ a, as[i]? = some a ∧ R a b) → All2 R as bs
  | [], [], _, _ => .nil
  | [], _ :: _, h, _ => by simp at h
  | _ :: _, [], h, _ => by simp at h
  | a :: as, b :: bs, h, k => by
    obtain ⟨a', e, r⟩ := k 0 b rfl
    cases e
    exact .cons r (All2.of_get (by simpa using h) fun i b hb => by simpa using k (i + 1) b (by simpa using hb))
theorem q_nil {Q : List (Value × Value) → Heap → Prop} (k : Q [] h) : W prog w g A (evalPairs []) Q h := ⟨fun _ => evalPairs_nil (.mk k)⟩
theorem q_cons {ke ve : Expr} {pos : Pos} {rest : List (Sem Value × Sem Value)} {Q : List (Value × Value) → Heap → Prop} (k : W prog w g A (eval ke env) (fun a h₁ => W prog w g A (eval ve env) (fun b h₂ => W prog w g A (evalPairs rest) (fun vs h₃ => Q ((a, b) :: vs) h₃) h₂) h₁) h) :
    W prog w g A (evalPairs ((eval ke env, do let x ← eval ve env; standAt pos; pure x) :: rest)) Q h :=
  ⟨fun n => evalPairs_cons (k.then fun a h₁ _ k => wpAny_bind (k.then fun b h₂ _ k => wpAny_bind (wpAny_standAt (wpAny_pure (k.then fun vs h₃ _ k => .mk k)))))⟩
theorem e_dict {K : Type} [DecidableEq K] (knd : KeyKind prog w K) {keys : List (Option Expr)} {values : List Expr} {pos : Pos} {Q : Value → Heap → Prop} (B : Base w hb) (S : St hb h) (pairs : List (Sem Value × Sem Value))
    (hshape : (evalEachOpt keys env).zip ((evalEach values env).map fun v => do let x ← v; standAt pos; pure x) = pairs.map fun p => (some p.1, p.2)) (h0 : pairs ≠ []) (hlen : pairs.length ≤ 15)
    (k : ∀ h₀ d, Ext None h h₀ → h.get? d = none → (d == sysModules) = false → W prog w g A (evalPairs pairs) (fun vs h₁ => Ext None h₀ h₁ ∧ ∃ kvs, Carries knd vs kvs ∧ ∀ h₂, Ext (· = d) h₁ h₂ → h₂.DictOf knd d (merged [] kvs) → Q (.ref d) h₂) h₀) :
    W prog w g A (eval (.Dict keys values pos) env) Q h := by
  obtain ⟨p, loose, mg, mb, T⟩ := B.T
  have low := modules_low (T.nolimit.keeps S)
  refine ⟨fun n => wpAny_Dict_pairs (knd := knd) (s := sh g h n) hshape h0 hlen ((k _ _ Ext.push (size_none _) (by rw [beq_eq_false_iff_ne]; exact (Nat.ne_of_lt low).symm)).then fun vs h₁ m q => ?_)⟩
  obtain ⟨e, kvs, hc, q⟩ := q
  have o1 : h₁.get? h.objs.size = some { cls := .type "dict", data := .dict #[] } := e.keep _ _ id (Heap.get?_push_size _ rfl)
  refine ⟨kvs, hc, ⟨_, #[], _, o1, ⟨rfl, rfl, rfl⟩, rfl, by intro e he; simp at he, .nil, .nil⟩, fun h' hm hs => .mk (q h' ?_ hm)⟩
  obtain ⟨o', _, _, p', _⟩ := id hm
  exact Ext.upd hs o1 (fun vs n q => by have := congrArg Obj.cls q; simp at this) p'

/-- a dict whose keys are numbers -/
noncomputable def KAt (prog : Program) (w : World) (h : Heap) (d : Addr) (ks : List Nat) (R : Nat → Value → Prop) : Prop :=
  (d == sysModules) = false ∧ ∃ kvs : List (Int × Value), h.DictOf (intKind prog w) d kvs ∧ All2 (fun (k : Nat) (kv : Int × Value) => kv.1 = k ∧ R k kv.2) ks kvs
theorem KAt.to {Y : Addr → Prop} {h₁ : Heap} {d : Addr} {ks : List Nat} {R : Nat → Value → Prop} (x : KAt prog w h d ks R) (e : Ext Y h h₁) (n : ¬ Y d := by exact id) : KAt prog w h₁ d ks R := let ⟨a, kvs, p, q⟩ := x; ⟨a, kvs, dict_to p e n, q⟩
theorem KAt.imp {d : Addr} {ks : List Nat} {R R' : Nat → Value → Prop} (x : KAt prog w h d ks R) (k : ∀ n v, R n v → R' n v) : KAt prog w h d ks R' := let ⟨a, kvs, p, q⟩ := x; ⟨a, kvs, p, q.imp fun _ _ r => ⟨r.1, k _ _ r.2⟩⟩
theorem KAt.some {d : Addr} {ks : List Nat} {R : Nat → Value → Prop} (x : KAt prog w h d ks R) : h.get? d ≠ none := let ⟨_, _, p, _⟩ := x; dict_some p
theorem KAt.keys {ks : List Nat} {kvs : List (Int × Value)} {R : Nat → Value → Prop} (x : All2 (fun (k : Nat) (kv : Int × Value) => kv.1 = k ∧ R k kv.2) ks kvs) : kvs.map (·.1) = ks.map fun (k : Nat) => (k : Int) := by
  induction x with
  | nil => rfl
  | cons h _ ih => simp [h.1, ih]
theorem ints_mem {ks : List Nat} {k : Nat} : (k : Int) ∈ ks.map (fun (k : Nat) => (k : Int)) ↔ k ∈ ks := by
  simp only [List.mem_map]
  constructor
  · rintro ⟨j, hj, e⟩; have : j = k := by omega
    exact this ▸ hj
  · exact fun h => ⟨k, h, rfl⟩
theorem o_notin_k {d : Addr} {ks : List Nat} {R : Nat → Value → Prop} {k : Nat} {u : Tok} {q : Bool} {Q : Value → Heap → Prop} (x : KAt prog w h d ks R) (hq : q = true ↔ k ∉ ks) (kq : Q (.bool q) h) : W prog w g A (compareOp .NotIn (.int k u) (.ref d)) Q h := by
  obtain ⟨lo, kvs, p, a⟩ := x
  refine ⟨fun n => wpAny_notIn_of (s := sh g h n) (k := (k : Int)) int_is lo (Heap.DictOf.mapOf p) ?_⟩
  have e : (!(valueAt kvs (k : Int)).isSome) = q := by
    have hk := KAt.keys a
    cases q with
    | true =>
      rw [valueAt_none_of_not_mem (by rw [hk, ints_mem]; exact hq.mp rfl)]; rfl
    | false =>
      have hm : k ∈ ks := Classical.byContradiction fun h => Bool.false_ne_true (hq.mpr h)
      rw [valueAt_isSome_eq_any]
      have : (k : Int) ∈ kvs.map (·.1) := by rw [hk, ints_mem]; exact hm
      obtain ⟨kv, h1, h2⟩ := List.mem_map.mp this
      rw [show kvs.any (fun kv => decide (kv.1 = (k : Int))) = true from List.any_eq_true.mpr ⟨kv, h1, by simpa using h2⟩]; rfl
  rw [e]
  exact .mk kq
theorem s_k {d : Addr} {ks : List Nat} {R : Nat → Value → Prop} {k : Nat} {u : Tok} {v : Value} {Q : Unit → Heap → Prop} (x : KAt prog w h d ks R) (hk : k ∉ ks) (hz : ks.length ≤ 5000) (hr : R k v) (kq : ∀ h₁, Ext (· = d) h h₁ → KAt prog w h₁ d (ks ++ [k]) R → Q () h₁) :
    W prog w g A (setItem (.ref d) (.int k u) v) Q h := by
  obtain ⟨lo, kvs, p, a⟩ := x
  refine set_dict (kk := (k : Int)) int_is p (by rw [← a.length]; omega) fun h₁ e p' => kq h₁ e ⟨lo, kvs ++ [((k : Int), v)], ?_, a.snoc ⟨rfl, hr⟩⟩
  rw [stored_absent (valueAt_none_of_not_mem (by rw [KAt.keys a, ints_mem]; exact hk))] at p'
  exact p'
theorem t_k {value slice : Expr} {d : Addr} {ks : List Nat} {R : Nat → Value → Prop} {k : Nat} {u : Tok} {Q : Value → Heap → Prop} (x : KAt prog w h d ks R) (hk : k ∈ ks) (kq : ∀ v, R k v → Q v h)
    (hs : subscripted slice false (.ref d) (.int k u) = operate [.ref d, .int k u] (getItem (.ref d) (.int k u)) := by with_unfolding_all rfl) : W prog w g A (subscriptTail value slice (.ref d) (.int k u)) Q h := by
  obtain ⟨lo, kvs, p, a⟩ := x
  obtain ⟨i, hi⟩ := List.mem_iff_getElem?.mp hk
  obtain ⟨⟨k', v⟩, hv, e, r⟩ := a.get' hi
  have nd : (kvs.map (·.1)).Nodup := let ⟨_, _, _, _, _, _, _, _, q⟩ := p; q
  simp only at e
  subst e
  exact t_dict v int_is p (valueAt_of_get nd hv) (kq v r) hs
theorem intsAre_of {vs : List Value} {is : List Int} (x : All2 IntIs is vs) : PyProof.Rows.IntsAre vs is := by
  induction x with
  | nil => exact .nil
  | cons h _ ih => obtain ⟨u, rfl⟩ := h; exact .cons _ _ ih
theorem all2_of {vs : List Value} {is : List Int} (x : PyProof.Rows.IntsAre vs is) : All2 IntIs is vs := by
  induction x with
  | nil => exact .nil
  | cons n t _ ih => exact .cons ⟨t, rfl⟩ ih
/-- sorted(..) of the numbers of a dict -/
theorem c_sorted_k {d : Addr} {ks : List Nat} {R : Nat → Value → Prop} {Q : Value → Heap → Prop} (hh : A.handled = none) (x : KAt prog w h d ks R) (hz : ks.length < 64)
    (k : ∀ h₁ D ks' vs, Ext None h h₁ → h.get? D = none → LstAt h₁ D vs → All2 NatIs ks' vs → ks'.Perm ks → ks'.Pairwise (· ≤ ·) → Q (.ref D) h₁) : W prog w g A (call (.builtin "sorted") [.ref d]) Q h := by
  obtain ⟨lo, kvs, p, a⟩ := x
  obtain ⟨ep, dat⟩ := p.dictAt
  have hlen := a.length
  refine ⟨fun n => Calls.call_function_entry kind_sorted plain_sorted entry_sorted (args_sorted1 _) ?_⟩
  unfold Builtin.«sorted»
  refine wpAny_bind (m := checkCount "sorted" 1 1 _) (wpAny_pure ?_)
  refine wpAny_bind (kdu_collect (A := A.in1) (s := sh g h n) (kdl_dict (kvs := kvs) (ep := ep) lo) hh dat (by rw [sizeLine_eq]; omega) fun h' tk acc hk hacc => ?_)
  have hl : acc.toList.length = kvs.length := by rw [Array.length_toList]; exact hacc.1
  have hI : All2 IntIs (ks.map fun (k : Nat) => (k : Int)) acc.toList := by
    refine All2.of_get (by rw [List.length_map, hl, hlen]) fun i v hv => ?_
    obtain ⟨k', x, hx, hk'⟩ := hacc.2 i v (by rw [← Array.getElem?_toList]; exact hv)
    obtain ⟨kn, hkn, r⟩ := a.get hx
    obtain ⟨t, rfl⟩ := Value.isInt_shape (show Value.isInt k' v = true from hk')
    refine ⟨(kn : Int), by rw [List.getElem?_map, hkn]; rfl, t, ?_⟩
    rw [show k' = (kn : Int) from r.1]
  refine wpAny_bind (wpAny_newList ?_ (by rw [hl, sizeLine_eq]; omega))
  have hoL : (h'.push (seqObj "list" acc.toList.toArray 0)).get? h'.objs.size = some (seqObj "list" acc.toList.toArray 0) := Heap.get?_push_size _ rfl
  have hn : h.get? h'.objs.size = none := by
    cases q : h.get? h'.objs.size with
    | none => rfl
    | some o => exact absurd (Heap.lt_size (hk _ _ q)) (Nat.lt_irrefl _)
  refine wpAny_bind (wpAny_holding (wpAny_call_entry (s := sh g (h'.push (seqObj "list" acc.toList.toArray 0)) tk) slot_list_sort ⟨_, hoL, rfl⟩ entry_list_sort (list_sort_tree (s := sh g (h'.push (seqObj "list" acc.toList.toArray 0)) tk) hoL (intsAre_of hI) (by rw [hl, ← hlen]; exact hz) fun out ns' a1 a2 a3 => ⟨_, rfl, ?_⟩) (args_list_sort _)))
  obtain ⟨c, hc⟩ := sortedHeap_at (out := out) hoL
  have e : Ext None h (sortedHeap (h'.push (seqObj "list" acc.toList.toArray 0)) h'.objs.size acc.toList out) := Ext.grown fun b o q => by
    have q' := hk b o q
    have hlt : b < h'.objs.size := Heap.lt_size q'
    rw [sortedHeap_old (Nat.ne_of_lt hlt) (by rw [Heap.size_push]; exact Nat.lt_succ_of_lt hlt)]
    exact Heap.get?_push_of_some _ q'
  obtain ⟨ks', rfl⟩ : ∃ ks' : List Nat, ns' = ks'.map fun (k : Nat) => (k : Int) := by
    have : ∀ i ∈ ns', ∃ k : Nat, i = (k : Int) := fun i hi => by
      obtain ⟨k, _, e⟩ := List.mem_map.mp (a2.mem_iff.mp hi)
      exact ⟨k, e.symm⟩
    clear a1 a2 a3
    induction ns' with
    | nil => exact ⟨[], rfl⟩
    | cons i r ih =>
      obtain ⟨k, rfl⟩ := this i (.head _)
      obtain ⟨ks', rfl⟩ := ih fun i hi => this i (.tail _ hi)
      exact ⟨k :: ks', rfl⟩
  refine wpAny_pure ⟨_, rfl, .mk (k _ _ ks' out.toList e hn ⟨c, by rw [Array.toArray_toList]; exact hc⟩ ?_ ?_ ?_)⟩
  · exact All2.of_get (by have := (all2_of a1).length; simpa using this) fun i v hv => by
      obtain ⟨z, hz, t, e⟩ := (all2_of a1).get hv
      rw [List.getElem?_map] at hz
      cases q : ks'[i]? with
      | none => rw [q] at hz; cases hz
      | some k => rw [q] at hz; cases hz; exact ⟨k, rfl, t, e⟩
  · have := a2.map Int.toNat
    rw [List.map_map, List.map_map, show (Int.toNat ∘ fun (k : Nat) => (k : Int)) = id from funext fun k => by simp, List.map_id, List.map_id] at this
    exact this
  · rw [List.pairwise_map] at a3
    exact a3.imp fun h => by omega
end
end Mine

end

section
open PySem PySem.W PySem.Calls PyProof.Rows
namespace Mine

theorem nodup_le {α : Type} : ∀ {l m : List α}, l.Nodup → (∀ x, x ∈ l → x ∈ m) → l.length ≤ m.length
  | [], _, _, _ => Nat.zero_le _
  | x :: l, m, h, k => by
    obtain ⟨p, q, rfl⟩ := List.append_of_mem (k x (.head _))
    have hx : x ∉ l := (List.nodup_cons.mp h).1
    have := nodup_le (m := p ++ q) (List.nodup_cons.mp h).2 fun y hy => by
      have := k y (.tail _ hy)
      simp only [List.mem_append, List.mem_cons] at this ⊢
      rcases this with h | rfl | h
      · exact .inl h
      · exact absurd hy hx
      · exact .inr h
    simp only [List.length_append, List.length_cons] at this ⊢
    omega

/-- j is the number of a kid of k's term -/
noncomputable def KidOf (ts : List T) (k j : Nat) : Prop := ∃ s c, ts[k]? = some s ∧ c ∈ s.kids ∧ ts[j]? = some c
/-- what is known of the numbers seen (ks) and of those that wait (st), of t at n, but for the kids of those in X -/
structure Seen (ts : List T) (t : T) (n : Nat) (X : Nat → Prop) (ks st : List Nat) : Prop where
  n : n ∈ ks
  nd : ks.Nodup
  sub : ∀ k, k ∈ ks → ∃ s, ts[k]? = some s ∧ s ∈ t.subs
  wait : ∀ k, k ∈ st → k ∈ ks
  kids : ∀ k, k ∈ ks → k ∈ st ∨ X k ∨ ∀ j, KidOf ts k j → j ∈ ks
theorem T.subs_trans {s t : T} (h : s ∈ t.subs) : ∀ c, c ∈ s.kids → c ∈ t.subs := by
  induction t with
  | leaf o => rw [T.subs_eq] at h; simp [T.kids] at h; subst h; intro c hc; simp [T.kids] at hc
  | one o t ih =>
    simp [T.subs] at h
    rcases h with rfl | h
    · intro c hc; simp [T.kids] at hc; subst hc; simp [T.subs]; right; exact c.self_mem
    · intro c hc; simp [T.subs]; right; exact ih h c hc
  | two o l r ih jh =>
    simp [T.subs] at h
    rcases h with rfl | h | h
    · intro c hc; simp [T.kids] at hc; rcases hc with rfl | rfl <;> simp [T.subs, T.self_mem]
    · intro c hc; simp [T.subs]; right; left; exact ih h c hc
    · intro c hc; simp [T.subs]; right; right; exact jh h c hc
theorem num_inj {ts : List T} (nd : ts.Nodup) {i j : Nat} {c : T} (a : ts[i]? = some c) (b : ts[j]? = some c) : i = j := by
  have h1 := List.getElem?_eq_some_iff.mp a
  have h2 := List.getElem?_eq_some_iff.mp b
  exact (List.getElem_inj nd).mp (h1.2.trans h2.2.symm)
theorem Seen.le {ts : List T} {t : T} {n : Nat} {X : Nat → Prop} {ks st : List Nat} (x : Seen ts t n X ks st) : ks.length ≤ ts.length := by
  have := nodup_le (m := List.range ts.length) x.nd fun k hk => by
    obtain ⟨s, hs, _⟩ := x.sub k hk
    rw [List.mem_range]; exact (List.getElem?_eq_some_iff.mp hs).1
  simpa using this
theorem Seen.le_size {ts : List T} (nd : ts.Nodup) {t : T} {n : Nat} {X : Nat → Prop} {ks st : List Nat} (x : Seen ts t n X ks st) : ks.length ≤ t.size := by
  have key : ∀ ks : List Nat, ks.Nodup → (∀ k, k ∈ ks → ∃ s, ts[k]? = some s ∧ s ∈ t.subs) → ∃ us : List T, us.length = ks.length ∧ us.Nodup ∧ (∀ s, s ∈ us → s ∈ t.subs) ∧ ∀ s, s ∈ us → ∃ k, k ∈ ks ∧ ts[k]? = some s := by
    intro ks
    induction ks with
    | nil => intro _ _; exact ⟨[], rfl, .nil, by simp, by simp⟩
    | cons k ks ih =>
      intro h1 h2
      obtain ⟨us, a, b, c, d⟩ := ih (List.nodup_cons.mp h1).2 fun k hk => h2 k (.tail _ hk)
      obtain ⟨s, hs, hs'⟩ := h2 k (.head _)
      refine ⟨s :: us, by simp [a], List.nodup_cons.mpr ⟨fun hm => ?_, b⟩, ?_, ?_⟩
      · obtain ⟨j, hj, e⟩ := d s hm
        exact (List.nodup_cons.mp h1).1 (num_inj nd hs e ▸ hj)
      · intro s' hm
        rcases List.mem_cons.mp hm with rfl | hm
        · exact hs'
        · exact c s' hm
      · intro s' hm
        rcases List.mem_cons.mp hm with rfl | hm
        · exact ⟨k, .head _, hs⟩
        · obtain ⟨j, hj, e⟩ := d s' hm
          exact ⟨j, .tail _ hj, e⟩
  obtain ⟨us, a, b, c, _⟩ := key ks x.nd x.sub
  have := nodup_le b c
  rw [T.subs_len] at this
  omega

section
variable {prog : Program} {w : World} {g : Shared} {hb : Heap} {A : Around} {h : Heap} {env : Env}

theorem All2.unsnoc {α β : Type} {R : α → β → Prop} {as : List α} : ∀ {bs : List β} {b : β}, All2 R as (bs ++ [b]) → ∃ as' a, as = as' ++ [a] ∧ All2 R as' bs ∧ R a b := by
  induction as with
  | nil => intro bs b x; cases bs <;> cases x
  | cons a as ih =>
    intro bs b x
    cases bs with
    | nil => cases x with | cons h t => cases t; exact ⟨[], a, rfl, .nil, h⟩
    | cons c bs =>
      cases x with
      | cons h t =>
        obtain ⟨as', a', rfl, q, r⟩ := ih t
        exact ⟨a :: as', a', rfl, .cons h q, r⟩
theorem Step.but {Y : Addr → Prop} {h₁ h h' : Heap} (s : Step Y h₁ h h') : But (fun b => h₁.get? b = none ∨ Y b) h h' := fun b o n q => s.keep b o (fun e => n (.inl e)) (fun y => n (.inr y)) q
theorem KAt.but {Z : Addr → Prop} {h' : Heap} {d : Addr} {ks : List Nat} {R : Nat → Value → Prop} (x : KAt prog w h d ks R) (e : But Z h h') (n : ¬ Z d) : KAt prog w h' d ks R := let ⟨a, kvs, p, q⟩ := x; ⟨a, kvs, p.at fun _ r => e _ _ n r, q⟩
theorem KAt.new {d : Addr} {R : Nat → Value → Prop} (lo : (d == sysModules) = false) (x : h.get? d = Option.some { cls := .type "dict", data := .dict #[] }) : KAt prog w h d [] R :=
  ⟨lo, [], ⟨_, #[], _, x, ⟨rfl, rfl, rfl⟩, rfl, by intro e he; simp at he, .nil, .nil⟩, .nil⟩
theorem Seen.add {ts : List T} {t : T} {n k j : Nat} {ks st : List Nat} (x : Seen ts t n (· = k) ks st) (hk : k ∈ ks) (hj : KidOf ts k j) (hn : j ∉ ks) : Seen ts t n (· = k) (ks ++ [j]) (st ++ [j]) where
  n := List.mem_append_left _ x.n
  nd := by
    rw [List.nodup_append]
    refine ⟨x.nd, by simp, fun a ha b hb => ?_⟩
    rw [List.mem_singleton] at hb
    rintro rfl
    exact hn (hb ▸ ha)
  sub := fun i hi => by
    rcases List.mem_append.mp hi with hi | hi
    · exact x.sub i hi
    · rw [List.mem_singleton] at hi
      subst hi
      obtain ⟨s, c, h1, h2, h3⟩ := hj
      obtain ⟨s', h4, h5⟩ := x.sub k hk
      rw [h1] at h4
      cases h4
      exact ⟨c, h3, T.subs_trans h5 c h2⟩
  wait := fun i hi => by
    rcases List.mem_append.mp hi with hi | hi
    · exact List.mem_append_left _ (x.wait i hi)
    · exact List.mem_append_right _ hi
  kids := fun i hi => by
    rcases List.mem_append.mp hi with hi | hi
    · rcases x.kids i hi with h | h | h
      · exact .inl (List.mem_append_left _ h)
      · exact .inr (.inl h)
      · exact .inr (.inr fun j hj => List.mem_append_left _ (h j hj))
    · exact .inl (List.mem_append_right _ hi)

theorem term_ok {b : Bk} {ts : List T} {t : T} {n : Nat} {u : Tok} {Q : Value → Heap → Prop} (B : Base w hb) (S : St hb h) (R : Rm A 3) (bk : BankAt prog w h b ts) (hz : ts.length ≤ 4000) (hn : ts[n]? = some t) (ht : t.size ≤ 60)
    (k : ∀ h₁ v, Ext None h h₁ → TermAt h₁ t v → Q v h₁) : W prog w g A (call (.ref 155) [.ref b.x, .int n u]) Q h := by
  refine call_defC (k := 2) [("self", .ref b.x), ("n", .int n u)] B S R rfl rfl rfl rfl rfl rfl rfl fun h₁ L e₁ S₁ R₁ hL hC hn₁ hcs => ?_
  have hc0 : h.get? (L + 1) = none := hC "made" (L + 1) (.head _)
  have hc₁ : h₁.IsCell (L + 1) none := hcs "made" (L + 1) rfl
  have cL : L + 1 ≠ L := Nat.succ_ne_self _
  have bk₁ := bk.keep e₁
  -- below, stack = ({n: True}, [n])
  refine W.hideL ?_
  intro K
  refine x_cons ?_
  refine W.hideL ?_
  intro K
  refine as_pair R₁.hh <| e_tup <| i_cons <| e_dict (intKind prog w) B S₁ [(_, _)] rfl (List.cons_ne_nil _ _) (Nat.le_of_ble_eq_true rfl) fun h₂ bd e₂ nbd lo => q_cons <| e_local (ns_to hn₁ e₂) rfl <| e_bool <| q_nil ⟨.refl, [((n : Int), .bool true)], ⟨int_is, rfl, trivial⟩, fun h₃ e₃ dd => ?_⟩
  have bdL : bd ≠ L := (ne_new (ns_some hn₁) nbd).symm
  have bdc : bd ≠ L + 1 := (ne_new (cell_some hc₁) nbd).symm
  have bd0 : h.get? bd = none := e₁.new nbd
  have hn₃ := ns_to (ns_to hn₁ e₂) e₃ bdL.symm
  have k₃ : KAt prog w h₃ bd [n] (fun _ _ => True) := ⟨lo, _, dd, .cons ⟨rfl, trivial⟩ .nil⟩
  refine i_cons <| e_lst <| i_cons <| e_local hn₃ rfl <| i_nil ⟨Nat.le_of_ble_eq_true rfl, fun h₄ sd e₄ nsd ls => i_nil ⟨Nat.le_of_ble_eq_true rfl, fun h₅ p e₅ _ tp => ⟨p, _, _, _, rfl, tp, ns_to (ns_to hn₃ e₄) e₅, fun h₆ e₆ hn₆ => ?_⟩⟩⟩
  have E₃ : Ext None h h₃ := (e₁.trans e₂).at e₃ bd0
  have sd0 : h.get? sd = none := E₃.new nsd
  have sdL : sd ≠ L := (ne_new (ns_some hn₃) nsd).symm
  have c₃ := cell_to (cell_to hc₁ e₂) e₃ bdc.symm
  have sdc : sd ≠ L + 1 := (ne_new (cell_some c₃) nsd).symm
  have sdb : sd ≠ bd := (ne_new k₃.some nsd).symm
  have E₆ : Ext None h h₆ := ((E₃.trans e₄).trans e₅).at e₆ hL
  have fresh : ∀ a, a = L ∨ a = bd ∨ a = sd → h.get? a = none := by
    rintro a (rfl | rfl | rfl)
    · exact hL
    · exact bd0
    · exact sd0
  refine W.hideL ?_
  intro K
  refine x_cons ?_
  refine W.hideL ?_
  intro K
  refine x_while (fun N h' => ∃ ks st vs m, N ≤ 2 * ts.length ∧ N = 2 * (ts.length - ks.length) + st.length ∧ Seen ts t n (fun _ => False) ks st ∧ Ext None h h' ∧ h'.Ns L m ∧ m "below" = some (.ref bd) ∧ m "stack" = some (.ref sd) ∧ m "self" = some (.ref b.x) ∧ m "n" = some (.int n u) ∧
      h'.IsCell (L + 1) none ∧ KAt prog w h' bd ks (fun _ _ => True) ∧ LstAt h' sd vs ∧ All2 NatIs st vs) (2 * (ts.length - 1) + 1)
    ⟨[n], [n], _, _, by have := (List.getElem?_eq_some_iff.mp hn).1; omega, rfl, ⟨.head _, by simp, fun k hk => ⟨t, by rw [List.mem_singleton] at hk; rw [hk]; exact hn, t.self_mem⟩, fun _ q => q, fun k hk => .inl hk⟩, E₆, hn₆, rfl, rfl, rfl, rfl, cell_to (cell_to (cell_to c₃ e₄) e₅) e₆ cL,
      ((k₃.to e₄).to e₅).to e₆ bdL, (ls.to e₅).to e₆ sdL, .cons ⟨_, rfl⟩ .nil⟩ ?_
  rintro N h' ⟨ks, st, vs, m, hN0, hN, seen, E, hn', mb, ms, mself, mn, cc, kk, ls, as⟩
  have S' := S.to E
  have bk' := bk.keep E
  have hstl := as.length
  have hst : st.length ≤ 8000 := by omega
  refine b_cmp <| c_bi B S' n_len <| i_cons <| e_local hn' ms <| i_nil ⟨S', c_len_list ls (by omega) fun _ => e_int fun _ => o_gt ⟨_, rfl, ?_⟩⟩
  by_cases hne : st = []
  case neg =>
    have hpos : 0 < st.length := List.length_pos_iff.mpr hne
    rw [show decide ((0 : Int) < (vs.length : Int)) = true from decide_eq_true (by omega), if_pos rfl]
    obtain ⟨vs', v, rfl⟩ : ∃ vs' v, vs = vs' ++ [v] := by
      have : vs ≠ [] := by intro q; rw [q] at hstl; simp at hstl; exact hne hstl
      exact ⟨vs.dropLast, vs.getLast this, (List.dropLast_concat_getLast this).symm⟩
    obtain ⟨st', kn, rfl, as', uk, rfl⟩ := as.unsnoc
    have hkn : kn ∈ ks := seen.wait kn (by simp)
    obtain ⟨s, hs, hsub⟩ := seen.sub kn hkn
    -- for kid in self.kids(stack.pop())
    refine W.hideL ?_
    intro K
    refine x_cons ?_
    refine W.hideL ?_
    intro K
    refine x_forJ <| m_bank B f_kids rfl (fun _ _ _ _ _ _ _ _ _ _ _ _ => rfl) <| e_local hn' mself ⟨b.x, b.dx, b.nd, b.nm, b.wt, b.dp, rfl, S', bk'.obj, i_cons <| m_list F.slot_list_pop F.type_list_pop <| e_local hn' ms ⟨sd, _, rfl, ls, i_nil <| c_pop ls (by have := as'.length; simp only [List.length_append, List.length_cons, List.length_nil] at hst; omega) fun h₇ e₇ ls₇ => i_nil ⟨?_, ?_⟩⟩⟩
    · exact S'.to e₇ (by rintro a rfl; exact S.none sd0)
    have E₇ : Ext None h h₇ := E.at e₇ sd0
    have S₇ := S.to E₇
    refine kids_ok B S₇ (R₁.mono (by omega)) (bk.keep E₇) (by omega) hs fun h₈ tt kv ns e₈ ttt hns hkv => src_tup R₁.hh ttt fun h₉ it Sr e₉ X s0 => ?_
    have E₈ := E₇.trans e₈
    have e78 : Ext (· = sd) h' h₈ := e₇.trans e₈.of
    have hn₈ := ns_to hn' e78 sdL.symm
    have kk₈ := kk.to e78 sdb.symm
    have cc₈ := cell_to cc e78 sdc.symm
    have ls₈ := ls₇.to e₈
    have seen₈ : Seen ts t n (· = kn) ks st' := ⟨seen.n, seen.nd, seen.sub, fun k hk => seen.wait k (List.mem_append_left _ hk), fun k hk => by
      rcases seen.kids k hk with h | h | h
      · rcases List.mem_append.mp h with h | h
        · exact .inl h
        · exact .inr (.inl (by simpa using h))
      · exact h.elim
      · exact .inr (.inr h)⟩
    have live : ∀ a, a = L ∨ a = bd ∨ a = sd ∨ a = L + 1 → h₈.get? a ≠ none := by
      rintro a (rfl | rfl | rfl | rfl)
      · exact ns_some hn₈
      · exact kk₈.some
      · exact ls₈.some
      · exact cell_some cc₈
    refine ⟨it, _, _, Sr, _, rfl, X, s0, e₉, fun i h' => ∃ ks st' vs' m, 2 * (ts.length - ks.length) + st'.length < N ∧ kn ∈ ks ∧ Seen ts t n (· = kn) ks st' ∧ (∀ j, j ∈ ns.take i → j ∈ ks) ∧ Ext (fun a => a = L ∨ a = bd ∨ a = sd) h₈ h' ∧ h'.Ns L m ∧
        m "below" = some (.ref bd) ∧ m "stack" = some (.ref sd) ∧ m "self" = some (.ref b.x) ∧ m "n" = some (.int n u) ∧ h'.IsCell (L + 1) none ∧ KAt prog w h' bd ks (fun _ _ => True) ∧ LstAt h' sd vs' ∧ All2 NatIs st' vs',
      ⟨ks, st', vs', m, by rw [hN, List.length_append]; simp, hkn, seen₈, by simp, .refl, hn₈, mb, ms, mself, mn, cc₈, kk₈, ls₈, as'⟩, ?_, ?_, ?_⟩
    · rintro i h h' ⟨ks, st', vs', m, a1, a2, a3, a4, a5, a6, a7, a8, a9, a10, a11, a12, a13, a14⟩ st
      have nn : ∀ a, a = L ∨ a = bd ∨ a = sd ∨ a = L + 1 → ¬ (h₈.get? a = none ∨ None a) := fun a q r => r.elim (live a q) id
      exact ⟨ks, st', vs', m, a1, a2, a3, a4, a5.step (st.mono fun _ => False.elim), ns_but a6 st.but (nn _ (.inl rfl)), a7, a8, a9, a10, cell_but a11 st.but (nn _ (.inr (.inr (.inr rfl)))), a12.but st.but (nn _ (.inr (.inl rfl))), a13.but st.but (nn _ (.inr (.inr (.inl rfl)))), a14⟩
    · rintro i v h₁₀ hi hv ⟨ks, st', vs', m, a1, a2, a3, a4, a5, a6, a7, a8, a9, a10, a11, a12, a13, a14⟩
      obtain ⟨j, hj, uj, rfl⟩ := hkv.get hv
      obtain ⟨c, hc, hcn⟩ := hns.get hj
      have kof : KidOf ts kn j := ⟨s, c, hs, List.mem_of_getElem? hc, hcn⟩
      have hjl : j < ts.length := (List.getElem?_eq_some_iff.mp hcn).1
      refine asg_local a6 fun h₁₁ e₁₁ n₁₁ => ?_
      have kk₁₁ := a12.to e₁₁ bdL
      have ls₁₁ := a13.to e₁₁ sdL
      have cc₁₁ := cell_to a11 e₁₁ cL
      by_cases hin : j ∈ ks
      · refine W.hideL ?_
        intro K
        refine x_cons ?_
        refine W.hideL ?_
        intro K
        refine x_if <| b_cmp <| e_local n₁₁ rfl <| e_local n₁₁ a7 <| o_notin_k kk₁₁ (q := false) (by simp [hin]) ⟨false, rfl, ?_⟩
        rw [if_neg (by decide)]
        refine x_nil <| x_nil ⟨⟨(· = L), e₁₁, ?_⟩, ks, st', vs', _, a1, a2, a3, ?_, a5.trans (e₁₁.mono fun _ => .inl), n₁₁, a7, a8, a9, a10, cc₁₁, kk₁₁, ls₁₁, a14⟩
        · rintro a rfl; exact ⟨live _ (.inl rfl), id⟩
        · intro x hx
          rw [take_snoc hj] at hx
          rcases List.mem_append.mp hx with hx | hx
          · exact a4 x hx
          · rw [List.mem_singleton] at hx; exact hx ▸ hin
      · refine W.hideL ?_
        intro K
        refine x_cons ?_
        refine W.hideL ?_
        intro K
        refine x_if <| b_cmp <| e_local n₁₁ rfl <| e_local n₁₁ a7 <| o_notin_k kk₁₁ (q := true) (by simp [hin]) ⟨true, rfl, ?_⟩
        rw [if_pos rfl]
        have seen' := a3.add a2 kof hin
        have hle := seen'.le
        simp only [List.length_append, List.length_cons, List.length_nil] at hle
        refine W.hideL ?_
        intro K
        refine x_cons ?_
        refine W.hideL ?_
        intro K
        refine x_setitem <| e_bool <| e_local n₁₁ a7 <| e_local n₁₁ rfl <| s_k kk₁₁ hin (by omega) trivial fun h₁₂ e₁₂ kk₁₂ => ?_
        have n₁₂ := ns_to n₁₁ e₁₂ bdL.symm
        have ls₁₂ := ls₁₁.to e₁₂ sdb
        refine W.hideL ?_
        intro K
        refine x_cons ?_
        refine W.hideL ?_
        intro K
        refine x_expr <| m_list F.slot_list_append F.type_list_append <| e_local n₁₂ a8 ⟨sd, _, rfl, ls₁₂, i_cons <| e_local n₁₂ rfl <| i_nil <| c_append ls₁₂ (by have := a14.length; omega) fun h₁₃ e₁₃ ls₁₃ => ⟨rfl, x_nil <| x_nil ⟨⟨fun a => a = L ∨ a = bd ∨ a = sd, ?_, ?_⟩, ks ++ [j], st' ++ [j], vs' ++ [.int j uj], _, ?_, List.mem_append_left _ a2, seen', ?_, ?_, ns_to n₁₂ e₁₃ sdL.symm, a7, a8, a9, a10, cell_to (cell_to cc₁₁ e₁₂ bdc.symm) e₁₃ sdc.symm, kk₁₂.to e₁₃ sdb.symm, ls₁₃, a14.snoc ⟨uj, rfl⟩⟩⟩⟩
        · exact ((e₁₁.mono fun _ => .inl).trans (e₁₂.mono fun _ q => .inr (.inl q))).trans (e₁₃.mono fun _ q => .inr (.inr q))
        · rintro a (q | q | q)
          · exact ⟨live _ (.inl q), id⟩
          · exact ⟨live _ (.inr (.inl q)), id⟩
          · exact ⟨live _ (.inr (.inr (.inl q))), id⟩
        · simp only [List.length_append, List.length_cons, List.length_nil]; omega
        · intro x hx
          rw [take_snoc hj] at hx
          rcases List.mem_append.mp hx with hx | hx
          · exact List.mem_append_left _ (a4 x hx)
          · exact List.mem_append_right _ hx
        · exact ((a5.trans (e₁₁.mono fun _ => .inl)).trans (e₁₂.mono fun _ q => .inr (.inl q))).trans (e₁₃.mono fun _ q => .inr (.inr q))
    · rintro h₁₀ ⟨ks, st', vs', m, a1, a2, a3, a4, a5, a6, a7, a8, a9, a10, a11, a12, a13, a14⟩
      refine x_nil ⟨_, a1, ks, st', vs', m, by omega, rfl, ⟨a3.n, a3.nd, a3.sub, a3.wait, fun i hi => ?_⟩, E₈.trans' a5 fun a q => .inr (fresh a q), a6, a7, a8, a9, a10, a11, a12, a13, a14⟩
      rcases a3.kids i hi with h | h | h
      · exact .inl h
      · refine .inr (.inr fun j hj => a4 j ?_)
        subst h
        obtain ⟨s', c, h1, h2, h3⟩ := hj
        rw [hs] at h1
        cases h1
        obtain ⟨q, hq⟩ := List.mem_iff_getElem?.mp h2
        obtain ⟨j', hj', e⟩ := hns.get' hq
        rw [num_inj bk.nd h3 e, List.take_of_length_le (by rw [hkv.length]; exact Nat.le_refl _)]
        exact List.mem_of_getElem? hj'
      · exact .inr (.inr h)
  case pos =>
    subst hne
    have hv0 : vs.length = 0 := by simpa using hstl.symm
    rw [show decide ((0 : Int) < (vs.length : Int)) = false from decide_eq_false (by omega), if_neg (by decide)]
    -- made = {}
    refine W.hideL ?_
    intro K
    refine x_cons ?_
    refine W.hideL ?_
    intro K
    refine x_assign <| e_dict0 B S' fun h₇ md e₇ nmd lo2 om => st_cell rfl (cell_to cc e₇) fun h₈ e₈ cc₈ => ?_
    have md0 : h.get? md = none := E.new nmd
    have mdL : md ≠ L := (ne_new (ns_some hn') nmd).symm
    have mdb : md ≠ bd := (ne_new kk.some nmd).symm
    have mdc : md ≠ L + 1 := (ne_new (cell_some cc) nmd).symm
    have E₈ : Ext None h h₈ := (E.trans e₇).at e₈ hc0
    have S₈ := S.to E₈
    have hn₈ := ns_to (ns_to hn' e₇) e₈ cL.symm
    have kk₈ := (kk.to e₇).to e₈ bdc
    have km₈ : KAt prog w h₈ md [] (fun _ _ => False) := KAt.new lo2 (e₈.keep _ _ mdc om)
    have hkl := seen.le_size bk.nd
    -- for k in sorted(below)
    refine W.hideL ?_
    intro K
    refine x_cons ?_
    refine W.hideL ?_
    intro K
    refine x_forJ <| c_bi B S₈ n_sorted <| i_cons <| e_local hn₈ mb <| i_nil ⟨S₈, c_sorted_k R₁.hh kk₈ (by omega) fun h₉ ld ks' vk e₉ nld lld avk hperm hasc => src_list R₁.hh lld fun h₁₀ it Sr e₁₀ X s0 => ?_⟩
    have E₉ := E₈.trans e₉
    have hn₉ := ns_to hn₈ e₉
    have km₉ := km₈.to e₉
    have cc₉ := cell_to cc₈ e₉
    have mem' : ∀ j, j ∈ ks' ↔ j ∈ ks := fun j => hperm.mem_iff
    have ldL : ld ≠ L := (ne_new (ns_some hn₈) nld).symm
    have ldm : ld ≠ md := (ne_new km₈.some nld).symm
    have hks' : ks'.length ≤ 60 := by rw [hperm.length_eq]; omega
    have hnd' : ks'.Nodup := hperm.nodup_iff.mpr seen.nd
    have live : ∀ a, a = L ∨ a = md ∨ a = L + 1 → h₉.get? a ≠ none := by
      rintro a (rfl | rfl | rfl)
      · exact ns_some hn₉
      · exact km₉.some
      · exact cell_some cc₉
    have nn : ∀ a, a = L ∨ a = md ∨ a = L + 1 → ¬ (h₉.get? a = none ∨ None a) := fun a q r => r.elim (live a q) id
    refine ⟨it, _, _, Sr, _, rfl, X, s0, e₁₀, fun i h' => ∃ m, Ext (fun a => a = L ∨ a = md) h₉ h' ∧ h'.Ns L m ∧ m "self" = some (.ref b.x) ∧ m "n" = some (.int n u) ∧ h'.IsCell (L + 1) (some (.ref md)) ∧
      KAt prog w h' md (ks'.take i) (fun k v => ∃ s, ts[k]? = some s ∧ TermAt h' s v), ⟨m, .refl, hn₉, mself, mn, cc₉, by simpa using km₉.imp fun _ _ q => q.elim⟩, ?_, ?_, ?_⟩
    · rintro i h h' ⟨m, a1, a2, a3, a4, a5, a6⟩ st
      exact ⟨m, a1.step (st.mono fun _ => False.elim), ns_but a2 st.but (nn _ (.inl rfl)), a3, a4, cell_but a5 st.but (nn _ (.inr (.inr rfl))), (a6.but st.but (nn _ (.inr (.inl rfl)))).imp fun _ _ ⟨s, p, q⟩ => ⟨s, p, q.tk st.tk⟩⟩
    · rintro i v h₁₁ hi hv ⟨m, a1, a2, a3, a4, a5, a6⟩
      obtain ⟨kn, hkn, uk, rfl⟩ := avk.get hv
      have hkm : kn ∈ ks := (mem' kn).mp (List.mem_of_getElem? hkn)
      obtain ⟨s, hs, hsub⟩ := seen.sub kn hkm
      have E₁₁ : Ext None h h₁₁ := E₉.trans' a1 (by rintro a (rfl | rfl) <;> right <;> assumption)
      refine asg_local a2 fun h₁₂ e₁₂ n₁₂ => ?_
      have E₁₂ := E₁₁.at e₁₂ hL
      have S₁₂ := S.to E₁₂
      have bk₁₂ := bk.keep E₁₂
      have km₁₂ := (a6.to e₁₂ mdL).imp fun _ _ ⟨s, p, q⟩ => (⟨s, p, q.to e₁₂⟩ : ∃ s, ts[_]? = some s ∧ TermAt h₁₂ s _)
      have cc₁₂ := cell_to a5 e₁₂ cL
      -- made[k] = (self.op(k),) + tuple([made[kid] for kid in self.kids(k)])
      refine W.hideL ?_
      intro K
      refine x_cons ?_
      refine W.hideL ?_
      intro K
      refine x_setitem <| e_bin <| e_tup <| i_cons <| m_bank B f_op rfl (fun _ _ _ _ _ _ _ _ _ _ _ _ => rfl) <| e_local n₁₂ a3 ⟨b.x, b.dx, b.nd, b.nm, b.wt, b.dp, rfl, S₁₂, bk₁₂.obj, i_cons <| e_local n₁₂ rfl <| i_nil ⟨S₁₂, op_ok B S₁₂ (R₁.mono (by omega)) bk₁₂ (by omega) hs fun h₁₃ uo e₁₃ => i_nil ⟨Nat.le_of_ble_eq_true rfl, fun h₁₄ p1 e₁₄ _ tp1 => ?_⟩⟩⟩
      have e1214 := e₁₃.trans e₁₄
      have S₁₄ := S₁₂.to e1214
      have n₁₄ := ns_to n₁₂ e1214
      have bk₁₄ := bk₁₂.keep e1214
      refine c_bi B S₁₄ n_tuple <| i_cons <| e_compJ [("made", L + 1)] rfl (by decide) rfl (by decide) <| m_bank B f_kids rfl (fun _ _ _ _ _ _ _ _ _ _ _ _ => rfl) <| e_local n₁₄ a3 ⟨b.x, b.dx, b.nd, b.nm, b.wt, b.dp, rfl, S₁₄, bk₁₄.obj, i_cons <| e_local n₁₄ rfl <| i_nil ⟨S₁₄, kids_ok B S₁₄ (R₁.mono (by omega)) bk₁₄ (by omega) hs fun h₁₅ tt kv ns e₁₅ ttt hns hkv => src_tup R₁.hh ttt fun h₁₆ it2 Sr2 e₁₆ X2 s2 => ?_⟩⟩
      have e1215 := e1214.trans e₁₅
      have hkvl : kv.length ≤ 2 := by have := hns.length; have := hkv.length; have := s.kids_len; omega
      refine ⟨it2, _, _, Sr2, _, rfl, X2, s2, e₁₆, by omega, J2 None h₁₅ (fun h' c v => TermAt h' c v) s.kids, .zero, J2.stab fun _ _ _ _ q k => q.tk k, ?_, ?_⟩
      · intro q v ys h' C mC hq hv j2 hl nsC nC
        obtain ⟨j, hj, uj, rfl⟩ := hkv.get hv
        obtain ⟨c, hc, hcn⟩ := hns.get hj
        refine asg_local nsC fun h₁₇ e₁₇ n₁₇ => ?_
        have e1517 : Ext None h₁₅ h₁₇ := j2.1.at e₁₇ nC
        have e1217 := e1215.trans e1517
        have hjin : j ∈ ks'.take i := by
          obtain ⟨j', hj', e⟩ := bk.low kn s hs c (List.mem_of_getElem? hc)
          have : j' = j := num_inj bk.nd e hcn
          subst this
          have hjk : j' ∈ ks := by
            rcases seen.kids kn hkm with h | h | h
            · simp at h
            · exact h.elim
            · exact h j' ⟨s, c, hs, List.mem_of_getElem? hc, hcn⟩
          obtain ⟨q, hq⟩ := List.mem_iff_getElem?.mp ((mem' j').mpr hjk)
          have hqi : q < i := by
            refine Nat.lt_of_not_le fun hle => ?_
            obtain ⟨hq1, hq2⟩ := List.getElem?_eq_some_iff.mp hq
            obtain ⟨hi1, hi2⟩ := List.getElem?_eq_some_iff.mp hkn
            rcases Nat.lt_or_eq_of_le hle with hlt | rfl
            · have := List.pairwise_iff_getElem.mp hasc i q hi1 hq1 hlt
              omega
            · omega
          exact List.mem_iff_getElem?.mpr ⟨q, by rw [List.getElem?_take_of_lt hqi]; exact hq⟩
        refine e_sub <| e_cell rfl (cell_to cc₁₂ e1217) <| e_local n₁₇ rfl <| t_k (km₁₂.to e1217) hjin ?_
        rintro v ⟨c', hc', tv⟩
        rw [show ts[j]? = some c from hcn] at hc'
        cases hc'
        exact ⟨⟨_, e₁₇, fun b q => .inl q⟩, ⟨_, n₁₇⟩, j2.snoc (fun _ _ _ _ q k => q.tk k) e₁₇ (by rintro b rfl; exact .inr nC) hc (tv.to e1217)⟩
      intro ys D h₁₇ j2 hyl lD nD
      have ay := j2.all (by have := hns.length; have := hkv.length; omega)
      have S₁₇ := (S₁₄.to e₁₅).to j2.1
      refine i_nil ⟨S₁₇, c_tuple_lst lD (by omega) fun h₁₈ p2 e₁₈ _ tp2 => o_add_tup (tp1.to ((e₁₅.trans j2.1).trans e₁₈)) tp2 (by simp; omega) fun h₁₉ tm e₁₉ ttm => ?_⟩
      have e1219 := ((e1215.trans j2.1).trans e₁₈).trans e₁₉
      have tterm : TermAt h₁₉ s (.ref tm) := TermAt.make ttm (terms_to (terms_to ay e₁₈) e₁₉)
      refine e_cell rfl (cell_to cc₁₂ e1219) <| e_local (ns_to n₁₂ e1219) rfl <| s_k ((km₁₂.to e1219).imp fun _ _ ⟨s, p, q⟩ => (⟨s, p, q.to e1219⟩ : ∃ s, ts[_]? = some s ∧ TermAt h₁₉ s _)) ?_ (by rw [List.length_take]; omega) ⟨s, hs, tterm⟩ fun h₂₀ e₂₀ km₂₀ => ?_
      · intro hm
        obtain ⟨q, hq⟩ := List.mem_iff_getElem?.mp hm
        have hqi : q < i := by
          have := (List.getElem?_eq_some_iff.mp hq).1
          rw [List.length_take] at this; omega
        rw [List.getElem?_take_of_lt hqi] at hq
        obtain ⟨hq1, hq2⟩ := List.getElem?_eq_some_iff.mp hq
        obtain ⟨hi1, hi2⟩ := List.getElem?_eq_some_iff.mp hkn
        have := (List.getElem_inj hnd').mp (hq2.trans hi2.symm)
        omega
      refine x_nil ⟨⟨fun a => a = L ∨ a = md, ?_, ?_⟩, _, ?_, ns_to (ns_to n₁₂ e1219) e₂₀ mdL.symm, a3, a4, cell_to (cell_to cc₁₂ e1219) e₂₀ mdc.symm, ?_⟩
      · exact ((e₁₂.mono fun _ => .inl).trans e1219.of).trans (e₂₀.mono fun _ => .inr)
      · rintro a (rfl | rfl)
        · exact ⟨live _ (.inl rfl), fun q => ldL q.symm⟩
        · exact ⟨live _ (.inr (.inl rfl)), fun q => ldm q.symm⟩
      · exact ((a1.trans (e₁₂.mono fun _ => .inl)).trans e1219.of).trans (e₂₀.mono fun _ => .inr)
      · rw [take_snoc hkn]
        exact km₂₀.imp fun _ _ ⟨s, p, q⟩ => ⟨s, p, q.to e₂₀⟩
    · rintro h₁₁ ⟨m, a1, a2, a3, a4, a5, a6⟩
      rw [List.take_of_length_le (by rw [avk.length]; exact Nat.le_refl _)] at a6
      have E₁₁ : Ext None h h₁₁ := E₉.trans' a1 (by rintro a (rfl | rfl) <;> right <;> assumption)
      refine W.hideL ?_
      intro K
      refine x_cons ?_
      refine W.hideL ?_
      intro K
      refine x_ret <| e_sub <| e_cell rfl a5 <| e_local a2 a4 <| t_k a6 ((mem' n).mpr seen.n) ?_
      rintro v ⟨s, hs, tv⟩
      rw [hn] at hs
      cases hs
      exact k _ _ E₁₁ tv
end
end Mine

end

section
open PySem PySem.W PySem.Calls PyProof.Rows
namespace Mine
section
variable {prog : Program} {w : World} {g : Shared} {hb : Heap} {A : Around} {h : Heap} {env : Env}

theorem rsize {a b : Int} : Builtin.Range.rangeSize a b 1 = ((b - a).toNat : Int) := by
  unfold Builtin.Range.rangeSize
  simp
  split <;> omega
theorem rsmall {a b : Int} (ha : a.natAbs ≤ 100000) (hb : b.natAbs ≤ 100000) : Builtin.Range.small a b 1 = true := by
  have f : ∀ i : Int, i.natAbs ≤ 300000 → Builtin.Range.rangeFitsLong i = true := fun i hi => by
    unfold Builtin.Range.rangeFitsLong
    simp only [Bool.and_eq_true, decide_eq_true_eq]
    omega
  unfold Builtin.Range.small
  rw [rsize, f a (by omega), f b (by omega), f 1 (by omega), f _ (by omega), if_pos (by omega), f _ (by omega)]
  simp
/-- range(a, b) and its iterator -/
noncomputable def RgAt (h : Heap) (r : Addr) (a b : Int) : Prop := ∃ t u v, IsRange h r a b 1 t u v
theorem c_range2 {a b : Int} {t u : Tok} {Q : Value → Heap → Prop} (k : ∀ h₁ r, Ext None h h₁ → RgAt h₁ r a b → Q (.ref r) h₁) : W prog w g A (call (.type "range") [.int a t, .int b u]) Q h :=
  ⟨fun n => call_range_2 (s := sh g h n) (.mk (k _ _ Ext.push ⟨_, _, _, Heap.get?_push_size _ rfl⟩))⟩
theorem c_range1 {b : Int} {u : Tok} {Q : Value → Heap → Prop} (k : ∀ h₁ r, Ext None h h₁ → RgAt h₁ r 0 b → Q (.ref r) h₁) : W prog w g A (call (.type "range") [.int b u]) Q h :=
  ⟨fun n => call_range_1 (s := sh g h n) (.mk (k _ _ Ext.push ⟨_, _, _, Heap.get?_push_size _ rfl⟩))⟩
theorem src_range {r : Addr} {a b : Int} {Q : Value → Heap → Prop} (hh : A.handled = none) (hr : RgAt h r a b) (ha : a.natAbs ≤ 100000) (hb : b.natAbs ≤ 100000)
    (k : ∀ h₂ it S, Ext None h h₂ → Src prog w g A h it (b - a).toNat (fun i v => ∃ t, v = .int (a + i) t) S None → S 0 h₂ → Q (.ref it) h₂) : W prog w g A (pyIter (.ref r)) Q h := by
  obtain ⟨t, u, v, hr⟩ := hr
  refine ⟨fun n => wpAny_pyIter_range (s := sh g h n) hr (rsmall ha hb) (.mk (k _ _ (fun i h' => IsRangeIter h' h.objs.size (a + i) (((b - a).toNat : Nat) - (i : Nat)) 1) Ext.push ?_ ?_))⟩
  · exact { go := It.range hh, new := size_none _, old := by rintro _ ⟨⟩, stay := fun i h h' Z x b t n1 n2 => b _ _ n1 x, tk := fun i h h' x b => .range b x, live := fun i h x q => (by have := Eq.trans (Eq.symm x) q; cases this), nolist := fun i h x vs ⟨m, r⟩ => (by have := Eq.trans (Eq.symm x) r; simp at this) }
  · rw [rsize]
    have e1 : a + ((0 : Nat) : Int) = a := by omega
    have e2 : (((b - a).toNat : Nat) : Int) - ((0 : Nat) : Int) = ((b - a).toNat : Nat) := by omega
    show IsRangeIter _ _ (a + ((0 : Nat) : Int)) ((((b - a).toNat : Nat) : Int) - ((0 : Nat) : Int)) 1
    rw [e1, e2]
    exact Heap.get?_push_size _ rfl

inductive ChgK (h' h'' : Heap) (it : Addr) (src : Addr → Prop) : Prop where
  | mk (Y : Addr → Prop) (a : Ext Y h' h'') (b : ¬ Y it) (c : ∀ b, src b → ¬ Y b)
inductive TurnK (h' h'' : Heap) (it : Addr) (src : Addr → Prop) (j : Prop) : Prop where
  | mk (a : ChgK h' h'' it src) (b : j)
inductive ForKK (prog : Program) (w : World) (g : Shared) (A : Around) (env : Env) (target : Expr) (body : List Stmt) (Q : Flow → Heap → Prop) (h₁ : Heap) (itv : Value) (h₂ : Heap) : Prop where
  | mk (it : Addr)
    (n : Nat)
    (P : Nat → Value → Prop)
    (S : Nat → Heap → Prop)
    (src : Addr → Prop)
    (a1 : itv = .ref it)
    (a2 : Src prog w g A h₁ it n P S src)
    (a3 : S 0 h₂)
    (a4 : Ext None h₁ h₂)
    (J : Nat → Heap → Prop)
    (a5 : J 0 h₂)
    (a6 : (∀ i h h', J i h → But (· = it) h h' → Tk h h' → (∀ vs, ¬ LstAt h it vs) → J i h'))
    (a7 : (∀ i v h', i < n → P i v → J i h' → (∀ vs, ¬ LstAt h' it vs) → h'.get? it ≠ none → W prog w g A (assign target env v) (fun _ h₃ => W prog w g A (execs body env) (fun f h'' => match f with
        | .next | .cont => TurnK h' h'' it src (J (i + 1) h'')
        | .brk => Q .next h''
        | .ret v => Q (.ret v) h'') h₃) h'))
    (a8 : (∀ h', J n h' → Q .next h'))
/-- for over one source, lists made anew at each turn -/
theorem x_forK {target iter : Expr} {body : List Stmt} {pos : Pos} {Q : Flow → Heap → Prop}
    (k : W prog w g A (eval iter env) (fun x h₁ => W prog w g A (pyIter x) (fun itv h₂ => ForKK prog w g A env target body Q h₁ itv h₂) h₁) h)
    (hs : ∀ x, foldedSetIterable iter env x = pure x := by intro _; rfl) :
    W prog w g A (exec (.For target iter body [] pos) env) Q h := by
  refine x_for (k.mono fun x h₁ k => k.mono fun itv h₂ k => ?_) hs
  obtain ⟨it, n, P, S, src, rfl, X, s0, e₂, J, j0, stab, turn, fin⟩ := k
  refine ⟨fun m h' => ∃ i, i ≤ n ∧ m = n - i ∧ S i h' ∧ J i h', n, ⟨0, Nat.zero_le _, rfl, s0, j0⟩, ?_⟩
  rintro m h' ⟨i, hi, rfl, s, j⟩
  refine X.go.turn s hi (fun hi v h₄ hv s₄ e₄ => ?_) fun hi h₄ k₄ => ?_
  · have j₄ := stab _ _ _ j e₄.but e₄.tup (X.nolist _ _ s)
    refine (turn i v h₄ hi hv j₄ (X.nolist _ _ s₄) (X.live _ _ s₄)).mono fun _ h₅ q => q.mono fun f h₆ q => ?_
    have go : TurnK h₄ h₆ it src (J (i + 1) h₆) → ∃ m, m < n - i ∧ ∃ i, i ≤ n ∧ m = n - i ∧ S i h₆ ∧ J i h₆ := by
      rintro ⟨⟨Y, e, hY, hS⟩, j₆⟩
      exact ⟨n - (i + 1), by omega, i + 1, hi, rfl, X.stay _ _ _ Y s₄ e.but e.tup hY hS, j₆⟩
    cases f <;> first | exact go q | exact q
  · subst hi
    exact fin h₄ (stab _ _ _ j (fun b o n q => k₄ b o n q) (X.tk _ _ _ s k₄) (X.nolist _ _ s))

/-- _law_draw(feed, c) -/
theorem e_draw {p p' p'' pos : Pos} {kd : Nat} {c : Int} {f l : Addr} {i : Nat} {m : Str → Option Value} {Q : Value → Heap → Prop} (B : Base w hb) (S : St hb h) (R : Rm A 1) (hn : h.Ns env.locals m) (hm : m "feed" = some (.ref f)) (hf : FeedAt prog w h f l i) (hbf : hb.get? f = none)
    (hk : i ≤ 1000) (h1 : 1 ≤ c) (h2 : c ≤ 1000) (k : ∀ h₁ r t, Ext (· = f) h h₁ → FeedAt prog w h₁ f l (i + 1) → 0 ≤ r → r < c → Q (.int r t) h₁)
    (hkd : env.scope.kind = .function := by rfl) (hx : env.kindOf "_law_draw" = some .globalImplicit := by rfl) (hl : env.kindOf "feed" = some .local := by rfl) (hg : env.globals = mainGlobals := by rfl) :
    W prog w g A (eval (.Call (.Name "_law_draw" p) [.Name "feed" p', .Constant (.int c) kd p''] [] pos) env) Q h :=
  c_glob B S n_draw (i_cons <| e_local hn hm (i_cons <| e_int fun _ => i_nil ⟨S, draw_ok B S R hf hbf hk h1 h2 k⟩) hkd hl) hkd hx hg

/-- _law_leaves -/
theorem leaves_ok {Q : Value → Heap → Prop} (B : Base w hb) (S : St hb h) (R : Rm A 1)
    (k : ∀ h₁ a t0 t1 t2 t3, Ext None h h₁ → LstAt h₁ a [.str "a" t0, .str "f" t1, .str "b" t2, .str "ab" t3] → Q (.ref a) h₁) : W prog w g A (call (.ref 190) []) Q h := by
  refine call_def (k := 0) [] B S R rfl rfl rfl rfl (by decide) rfl rfl rfl fun h₁ L e₁ S₁ R₁ hL hn₁ => ?_
  refine W.hideL ?_
  intro K
  refine x_cons ?_
  refine W.hideL ?_
  intro K
  refine x_ret <| e_lst <| i_cons <| e_str fun _ => i_cons <| e_str fun _ => i_cons <| e_str fun _ => i_cons <| e_str fun _ => i_nil ⟨Nat.le_of_ble_eq_true rfl, fun h₂ a e₂ na la => ?_⟩
  exact k _ _ _ _ _ _ (e₁.trans e₂) la
noncomputable def leafOf : Nat → Str
  | 0 => "a" | 1 => "f" | 2 => "b" | _ => "ab"
noncomputable def OpAt (h : Heap) (x : Str × Nat) (v : Value) : Prop := ∃ a u t, v = .ref a ∧ TupAt h a [.str x.1 u, .int x.2 t]
theorem OpAt.tk {h₁ : Heap} {x : Str × Nat} {v : Value} (o : OpAt h x v) (k : Tk h h₁) : OpAt h₁ x v := let ⟨a, u, t, e, p⟩ := o; ⟨a, u, t, e, p.tk k⟩
/-- the ops that the law draws -/
structure OpsOk (ops : List (Str × Nat)) : Prop where
  is : ∃ (i j : Nat) (p q : Str), i < 4 ∧ j < 4 ∧ i ≠ j ∧ (p = "f" ∨ p = "a" ∨ p = "b") ∧ (q = "f" ∨ q = "g" ∨ q = "a") ∧ (ops = [(leafOf i, 0), (p, 1), (q, 2)] ∨ ops = [(leafOf i, 0), (leafOf j, 0), (p, 1), (q, 2)])

theorem ops_ok {f l : Addr} {i : Nat} {Q : Value → Heap → Prop} (B : Base w hb) (S : St hb h) (R : Rm A 2) (hf : FeedAt prog w h f l i) (hbf : hb.get? f = none) (hi : i ≤ 900)
    (k : ∀ h₁ a ops vs, Ext (· = f) h h₁ → FeedAt prog w h₁ f l (i + 5) → h.get? a = none → LstAt h₁ a vs → All2 (OpAt h₁) ops vs → OpsOk ops → Q (.ref a) h₁) : W prog w g A (call (.ref 204) [.ref f]) Q h := by
  refine call_def (k := 1) [("feed", .ref f)] B S R rfl rfl rfl rfl (by decide) rfl rfl rfl fun h₁ L e₁ S₁ R₁ hL hn₁ => ?_
  obtain ⟨fL, lL⟩ := hf.ne hL
  have hf₁ := hf.to e₁
  have fb : ∀ {h'}, Ext (· = f) h h' → St hb h' := fun e => S.to e (by rintro a rfl; exact hbf)
  -- first, other
  refine W.hideL ?_
  intro K
  refine x_cons ?_
  refine W.hideL ?_
  intro K
  refine x_assign <| e_draw B S₁ (R₁.mono (by omega)) hn₁ rfl hf₁ hbf (by omega) (by decide) (by decide) fun h₂ r1 t1 e₂ f₂ ra rb => st_local (ns_to hn₁ e₂ fL.symm) fun h₃ e₃ n₃ => ?_
  have E₃ : Ext (· = f) h h₃ := (e₁.of.trans e₂).trans' e₃ (by rintro a rfl; exact .inr hL)
  have f₃ := f₂.to e₃ fL lL
  refine W.hideL ?_
  intro K
  refine x_cons ?_
  refine W.hideL ?_
  intro K
  refine x_assign <| e_bin <| e_bin <| e_bin <| e_local n₃ rfl <| e_int fun _ => o_add fun _ => e_draw B (fb E₃) (R₁.mono (by omega)) n₃ rfl f₃ hbf (by omega) (by decide) (by decide) fun h₄ r2 t2 e₄ f₄ rc rd => o_add fun _ => e_int fun _ => o_mod (by decide) fun to => st_local (ns_to n₃ e₄ fL.symm) fun h₅ e₅ n₅ => ?_
  have E₅ : Ext (· = f) h h₅ := (E₃.trans e₄).trans' e₅ (by rintro a rfl; exact .inr hL)
  have f₅ := f₄.to e₅ fL lL
  obtain ⟨i1, rfl⟩ : ∃ i1 : Nat, r1 = i1 := ⟨r1.toNat, by omega⟩
  obtain ⟨j1, hj1⟩ : ∃ j1 : Nat, (((i1 : Int) + 1 + r2) % 4) = j1 := ⟨(((i1 : Int) + 1 + r2) % 4).toNat, by omega⟩
  rw [hj1] at n₅
  have hij : i1 ≠ j1 := by omega
  have hi4 : i1 < 4 := by omega
  have hj4 : j1 < 4 := by omega
  have leaf : ∀ {t0 t1 t2 t3 : Tok} (n : Nat), n < 4 → ∃ t, ([.str "a" t0, .str "f" t1, .str "b" t2, .str "ab" t3] : List Value)[((n : Nat) : Int).toNat]? = some (.str (leafOf n) t) := by
    intro t0 t1 t2 t3 n hn
    rcases n with _ | _ | _ | _ | n
    · exact ⟨_, rfl⟩
    · exact ⟨_, rfl⟩
    · exact ⟨_, rfl⟩
    · exact ⟨_, rfl⟩
    · omega
  -- some
  refine W.hideL ?_
  intro K
  refine x_cons ?_
  refine W.hideL ?_
  intro K
  refine x_assign <| e_sub <| e_lst <| i_cons <| e_tup <| i_cons <| e_sub <| c_glob B (fb E₅) n_leaves <| i_nil ⟨fb E₅, leaves_ok B (fb E₅) (R₁.mono (by omega)) fun h₆ a6 t0 t1' t2' t3 e₆ l6 => e_local (ns_to n₅ e₆) rfl ?_⟩
  obtain ⟨tl, hl⟩ := leaf (t0 := t0) (t1 := t1') (t2 := t2') (t3 := t3) i1 hi4
  refine t_list _ l6 (by omega) (by omega) hl <| i_cons <| e_int fun z0 => i_nil ⟨Nat.le_of_ble_eq_true rfl, fun h₇ p7 e₇ _ tp7 => ?_⟩
  have e57 := e₆.trans e₇
  have S₇ := (fb E₅).to e57
  refine i_cons <| e_tup <| i_cons <| e_sub <| c_glob B S₇ n_leaves <| i_nil ⟨S₇, leaves_ok B S₇ (R₁.mono (by omega)) fun h₈ a8 q0 q1 q2 q3 e₈ l8 => e_local (ns_to n₅ (e57.trans e₈)) rfl ?_⟩
  obtain ⟨tl', hl'⟩ := leaf (t0 := q0) (t1 := q1) (t2 := q2) (t3 := q3) j1 hj4
  refine t_list _ l8 (by omega) (by omega) hl' <| i_cons <| e_int fun z1 => i_nil ⟨Nat.le_of_ble_eq_true rfl, fun h₉ p9 e₉ _ tp9 => i_nil ⟨Nat.le_of_ble_eq_true rfl, fun h₁₀ la e₁₀ nla lla => ?_⟩⟩
  have e510 := ((e57.trans e₈).trans e₉).trans e₁₀
  have E₁₀ := E₅.trans e510.of
  have f₁₀ := f₅.to e510
  have n₁₀ := ns_to n₅ e510
  have laf : la ≠ f := (ne_new (dict_some (f₅.to ((e57.trans e₈).trans e₉)).dict.choose_spec) nla).symm
  refine e_slice <| p_none <| p_some <| e_bin <| e_int fun _ => e_draw B (fb E₁₀) (R₁.mono (by omega)) n₁₀ rfl f₁₀ hbf (by omega) (by decide) (by decide) fun h₁₁ r3 t3 e₁₁ f₁₁ rg rh => o_add fun ts => p_none fun h₁₂ sl e₁₂ _ hsl => ?_
  obtain ⟨c, hc⟩ : ∃ c : Nat, (1 + r3 : Int) = c := ⟨(1 + r3).toNat, by omega⟩
  rw [hc] at hsl
  refine t_list_upto ((lla.to e₁₁ laf).to e₁₂) hsl (Nat.le_of_ble_eq_true rfl) fun h₁₃ sm e₁₃ nsm lsm => st_local (ns_to (ns_to (ns_to n₁₀ e₁₁ fL.symm) e₁₂) e₁₃) fun h₁₄ e₁₄ n₁₄ => ?_
  have smL : sm ≠ L := (ne_new (ns_some (ns_to (ns_to n₁₀ e₁₁ fL.symm) e₁₂)) nsm).symm
  have E₁₂ : Ext (· = f) h h₁₂ := (E₁₀.trans e₁₁).trans e₁₂.of
  have sm0 : h.get? sm = none := E₁₂.new nsm
  have E₁₄ : Ext (· = f) h h₁₄ := (E₁₂.trans e₁₃.of).trans' e₁₄ (by rintro a rfl; exact .inr hL)
  have f₁₄ := ((f₁₁.to e₁₂).to e₁₃).to e₁₄ fL lL
  have lsm₁₄ := lsm.to e₁₄ smL
  have smf : sm ≠ f := (ne_new (dict_some (f₁₁.to e₁₂).dict.choose_spec) nsm).symm
  -- the ops with kids
  have pick : ∀ {x0 x1 x2 : Str} {t0 t1 t2 : Tok} {r : Int}, 0 ≤ r → r < 3 → ∃ x t, ([.str x0 t0, .str x1 t1, .str x2 t2] : List Value)[r.toNat]? = some (.str x t) ∧ (x = x0 ∨ x = x1 ∨ x = x2) := by
    intro x0 x1 x2 t0 t1 t2 r h1 h2
    obtain ⟨n, rfl⟩ : ∃ n : Nat, r = n := ⟨r.toNat, by omega⟩
    rcases n with _ | _ | _ | n
    · exact ⟨_, _, rfl, .inl rfl⟩
    · exact ⟨_, _, rfl, .inr (.inl rfl)⟩
    · exact ⟨_, _, rfl, .inr (.inr rfl)⟩
    · omega
  refine W.hideL ?_
  intro K
  refine x_cons ?_
  refine W.hideL ?_
  intro K
  refine x_ret <| e_bin <| e_local n₁₄ rfl <| e_lst <| i_cons <| e_tup <| i_cons <| e_sub <| e_lst <| i_cons <| e_str fun s0 => i_cons <| e_str fun s1 => i_cons <| e_str fun s2 => i_nil ⟨Nat.le_of_ble_eq_true rfl, fun h₁₅ ua e₁₅ nua lua => ?_⟩
  have uaf : ua ≠ f := (ne_new (dict_some f₁₄.dict.choose_spec) nua).symm
  refine e_draw B (fb (E₁₄.trans e₁₅.of)) (R₁.mono (by omega)) (ns_to n₁₄ e₁₅) rfl (f₁₄.to e₁₅) hbf (by omega) (by decide) (by decide) fun h₁₆ r4 t4 e₁₆ f₁₆ rk rl => ?_
  obtain ⟨uo, tu, huo, hu⟩ := pick (x0 := "f") (x1 := "a") (x2 := "b") (t0 := s0) (t1 := s1) (t2 := s2) rk rl
  refine t_list _ (lua.to e₁₆ uaf) rk (by omega) huo <| i_cons <| e_int fun z2 => i_nil ⟨Nat.le_of_ble_eq_true rfl, fun h₁₇ p17 e₁₇ _ tp17 => ?_⟩
  refine i_cons <| e_tup <| i_cons <| e_sub <| e_lst <| i_cons <| e_str fun s0' => i_cons <| e_str fun s1' => i_cons <| e_str fun s2' => i_nil ⟨Nat.le_of_ble_eq_true rfl, fun h₁₈ va e₁₈ nva lva => ?_⟩
  have f₁₈ := (f₁₆.to e₁₇).to e₁₈
  have vaf : va ≠ f := (ne_new (dict_some (f₁₆.to e₁₇).dict.choose_spec) nva).symm
  have e1418 : Ext (· = f) h₁₄ h₁₈ := (e₁₅.of.trans e₁₆).trans (e₁₇.trans e₁₈).of
  refine e_draw B (fb (E₁₄.trans e1418)) (R₁.mono (by omega)) (ns_to n₁₄ e1418 fL.symm) rfl f₁₈ hbf (by omega) (by decide) (by decide) fun h₁₉ r5 t5 e₁₉ f₁₉ rm rn => ?_
  obtain ⟨vo, tv, hvo, hv⟩ := pick (x0 := "f") (x1 := "g") (x2 := "a") (t0 := s0') (t1 := s1') (t2 := s2') rm rn
  refine t_list _ (lva.to e₁₉ vaf) rm (by omega) hvo <| i_cons <| e_int fun z3 => i_nil ⟨Nat.le_of_ble_eq_true rfl, fun h₂₀ p20 e₂₀ _ tp20 => i_nil ⟨Nat.le_of_ble_eq_true rfl, fun h₂₁ lb e₂₁ _ llb => ?_⟩⟩
  have e1421 : Ext (· = f) h₁₄ h₂₁ := (e1418.trans e₁₉).trans (e₂₀.trans e₂₁).of
  refine o_add_lst (lsm₁₄.to e1421 smf) llb (by simp; omega) fun h₂₂ ra' e₂₂ nra lra => ?_
  have e1422 : Ext (· = f) h₁₄ h₂₂ := e1421.trans e₂₂.of
  have E₂₂ := E₁₄.trans e1422
  have tk7 : Ext (fun _ => True) h₇ h₂₂ := ((e₈.of.trans (e₉.of.trans e₁₀.of)).trans ((e₁₁.mono fun _ _ => trivial).trans (e₁₂.of.trans e₁₃.of))).trans ((e₁₄.mono fun _ _ => trivial).trans (e1422.mono fun _ _ => trivial))
  have tk9 : Ext (fun _ => True) h₉ h₂₂ := (e₁₀.of.trans ((e₁₁.mono fun _ _ => trivial).trans (e₁₂.of.trans e₁₃.of))).trans ((e₁₄.mono fun _ _ => trivial).trans (e1422.mono fun _ _ => trivial))
  have tk17 : Ext (fun _ => True) h₁₇ h₂₂ := (e₁₈.of.trans (e₁₉.mono fun _ _ => trivial)).trans (e₂₀.of.trans (e₂₁.of.trans e₂₂.of))
  have a0 : OpAt h₂₂ (leafOf i1, 0) (.ref p7) := ⟨p7, _, _, rfl, tp7.to tk7⟩
  have a1 : OpAt h₂₂ (leafOf j1, 0) (.ref p9) := ⟨p9, _, _, rfl, tp9.to tk9⟩
  have a2 : OpAt h₂₂ (uo, 1) (.ref p17) := ⟨p17, _, _, rfl, tp17.to tk17⟩
  have a3 : OpAt h₂₂ (vo, 2) (.ref p20) := ⟨p20, _, _, rfl, tp20.to (e₂₁.of.trans e₂₂.of : Ext (fun _ => True) _ _)⟩
  have nra0 : h.get? ra' = none := (E₁₄.trans e1421).new nra
  have f₂₂ := ((f₁₉.to e₂₀).to e₂₁).to e₂₂
  have hc12 : c = 1 ∨ c = 2 := by omega
  rcases hc12 with rfl | rfl
  · exact k h₂₂ ra' [(leafOf i1, 0), (uo, 1), (vo, 2)] _ E₂₂ f₂₂ nra0 lra (.cons a0 (.cons a2 (.cons a3 .nil))) ⟨i1, j1, uo, vo, hi4, hj4, hij, hu, hv, .inl rfl⟩
  · exact k h₂₂ ra' [(leafOf i1, 0), (leafOf j1, 0), (uo, 1), (vo, 2)] _ E₂₂ f₂₂ nra0 lra (.cons a0 (.cons a1 (.cons a2 (.cons a3 .nil)))) ⟨i1, j1, uo, vo, hi4, hj4, hij, hu, hv, .inr rfl⟩
end
end Mine

end

section
open PySem PySem.W PySem.Calls PyProof.Rows
namespace Mine

/-- all terms of so many nodes -/
noncomputable def grow2 (o : Str) (L R : List T) : List T := L.flatMap fun l => R.map fun r => T.two o l r
noncomputable def lefts (prev : List (List T)) (o : Str) (many : Nat) : Nat → List T
  | 0 => []
  | j + 1 => lefts prev o many j ++ grow2 o (prev.getD (j + 1) []) (prev.getD (many - 1 - (j + 1)) [])
noncomputable def piece (prev : List (List T)) (many : Nat) (x : Str × Nat) : List T :=
  if x.2 = 0 ∧ many = 1 then [T.leaf x.1] else if x.2 = 1 then (prev.getD (many - 1) []).map (T.one x.1) else if x.2 = 2 then lefts prev x.1 many (many - 2) else []
noncomputable def lotP (prev : List (List T)) (many : Nat) (ops : List (Str × Nat)) : List T := ops.flatMap (piece prev many)
noncomputable def lotsP (ops : List (Str × Nat)) : Nat → List (List T)
  | 0 => [[]]
  | m + 1 => lotsP ops m ++ [lotP (lotsP ops m) (m + 1) ops]

theorem lefts_len {prev : List (List T)} {o : Str} {many : Nat} (hp : ∀ l, l ∈ prev → l.length ≤ 50) : ∀ j, (lefts prev o many j).length ≤ 2500 * j
  | 0 => Nat.le_refl _
  | j + 1 => by
    have h1 := lefts_len (o := o) (many := many) hp j
    have hd : ∀ n, (prev.getD n []).length ≤ 50 := fun n => by
      unfold List.getD
      cases q : prev[n]? with
      | none => exact Nat.zero_le _
      | some l => exact hp l (List.mem_of_getElem? q)
    have h2 : (grow2 o (prev.getD (j + 1) []) (prev.getD (many - 1 - (j + 1)) [])).length ≤ 2500 := by
      have a := hd (j + 1)
      have b := hd (many - 1 - (j + 1))
      have : ∀ (L R : List T), (grow2 o L R).length = L.length * R.length := fun L R => by
        unfold grow2
        induction L with
        | nil => simp
        | cons x L ih => rw [List.flatMap_cons, List.length_append, ih, List.length_map, List.length_cons, Nat.succ_mul]; omega
      rw [this]
      exact Nat.mul_le_mul a b
    rw [lefts, List.length_append]
    omega
theorem lotP_take_le (prev : List (List T)) (many : Nat) (ops : List (Str × Nat)) (j : Nat) : (lotP prev many (ops.take j)).length ≤ (lotP prev many ops).length := by
  have e : lotP prev many ops = lotP prev many (ops.take j) ++ lotP prev many (ops.drop j) := by unfold lotP; rw [← List.flatMap_append, List.take_append_drop]
  rw [e, List.length_append]; omega
theorem lotsP_len (ops : List (Str × Nat)) : ∀ m, (lotsP ops m).length = m + 1
  | 0 => rfl
  | m + 1 => by rw [lotsP, List.length_append, lotsP_len ops m]; rfl

/-- lists stand but for those of X -/
noncomputable def Lk (X : Addr → Prop) (h h' : Heap) : Prop := ∀ a vs, ¬ X a → LstAt h a vs → LstAt h' a vs
theorem Lk.of {X Y : Addr → Prop} {h h' : Heap} (e : Ext Y h h') (k : ∀ a vs, Y a → LstAt h a vs → X a) : Lk X h h' := fun a vs n l => l.to e fun y => n (k a vs y l)
theorem Lk.but {it : Addr} {h h' : Heap} (e : But (· = it) h h') (k : ∀ vs, ¬ LstAt h it vs) : Lk None h h' := fun a vs _ l => l.but e (by rintro rfl; exact k _ l)
theorem cell_nolist {h : Heap} {c : Addr} {v : Option Value} (x : h.IsCell c v) (vs : List Value) : ¬ LstAt h c vs := fun ⟨n, q⟩ => by
  obtain ⟨o, p, d⟩ := x; rw [p] at q; rw [Option.some.inj q] at d; cases d
theorem ns_nolist {h : Heap} {L : Addr} {m : Str → Option Value} (x : h.Ns L m) (vs : List Value) : ¬ LstAt h L vs := fun l => ns_ne_lst x l rfl

noncomputable def LotAt (la : Addr) (h : Heap) (l : List T) (v : Value) : Prop := ∃ a tv, v = .ref a ∧ a ≠ la ∧ LstAt h a tv ∧ All2 (TermAt h) l tv
theorem LotAt.keep {la : Addr} {h h' : Heap} {l : List T} {v : Value} {X : Addr → Prop} (x : LotAt la h l v) (k : Lk X h h') (t : Tk h h') (n : ∀ a, v = .ref a → a ≠ la → ¬ X a) : LotAt la h' l v :=
  let ⟨a, tv, e, q, p, r⟩ := x; ⟨a, tv, e, q, k _ _ (n a e q) p, terms_tk r t⟩

/-- the state of _law_all -/
structure AllSt (h h' : Heap) (L ol la : Addr) (prev : List (List T)) (vsL : List Value) (m : Str → Option Value) : Prop where
  E : Ext None h h'
  ns : h'.Ns L m
  mo : m "ops" = some (.ref ol)
  c1 : h'.IsCell (L + 1) (some (.ref la))
  c2 : ∃ v, h'.IsCell (L + 2) v
  c3 : ∃ v, h'.IsCell (L + 3) v
  c4 : ∃ v, h'.IsCell (L + 4) v
  ll : LstAt h' la vsL
  lots : All2 (LotAt la h') prev vsL
structure Adrs (h : Heap) (L la : Addr) : Prop where
  L0 : h.get? L = none
  c10 : h.get? (L + 1) = none
  c20 : h.get? (L + 2) = none
  c30 : h.get? (L + 3) = none
  c40 : h.get? (L + 4) = none
  la0 : h.get? la = none
  laL : la ≠ L
  la1 : la ≠ L + 1
  la2 : la ≠ L + 2
  la3 : la ≠ L + 3
  la4 : la ≠ L + 4
section
variable {h h' h'' : Heap} {L ol la : Addr} {prev : List (List T)} {vsL : List Value} {m m' : Str → Option Value}
theorem lots_keep {X : Addr → Prop} (x : All2 (LotAt la h') prev vsL) (k : Lk X h' h'') (t : Tk h' h'') (n : ∀ a, .ref a ∈ vsL → a ≠ la → ¬ X a) : All2 (LotAt la h'') prev vsL := by
  induction x with
  | nil => exact .nil
  | cons q _ ih => exact .cons (q.keep k t fun a e => by subst e; exact n a (.head _)) (ih fun a hm => n a (.tail _ hm))
theorem AllSt.keep (x : AllSt h h' L ol la prev vsL m) (e : Ext None h' h'') : AllSt h h'' L ol la prev vsL m where
  E := x.E.trans e
  ns := ns_to x.ns e
  mo := x.mo
  c1 := cell_to x.c1 e
  c2 := let ⟨v, p⟩ := x.c2; ⟨v, cell_to p e⟩
  c3 := let ⟨v, p⟩ := x.c3; ⟨v, cell_to p e⟩
  c4 := let ⟨v, p⟩ := x.c4; ⟨v, cell_to p e⟩
  ll := x.ll.to e
  lots := lots_keep (X := None) x.lots (Lk.of e fun _ _ q => q.elim) e.tup fun _ _ _ => id
theorem AllSt.loc (A : Adrs h L la) (x : AllSt h h' L ol la prev vsL m) (e : Ext (· = L) h' h'') (n : h''.Ns L m') (mo : m' "ops" = some (.ref ol)) : AllSt h h'' L ol la prev vsL m' where
  E := x.E.at e A.L0
  ns := n
  mo := mo
  c1 := cell_to x.c1 e (Nat.succ_ne_self _)
  c2 := let ⟨v, p⟩ := x.c2; ⟨v, cell_to p e (Nat.ne_of_gt (Nat.lt_add_of_pos_right (by decide)))⟩
  c3 := let ⟨v, p⟩ := x.c3; ⟨v, cell_to p e (Nat.ne_of_gt (Nat.lt_add_of_pos_right (by decide)))⟩
  c4 := let ⟨v, p⟩ := x.c4; ⟨v, cell_to p e (Nat.ne_of_gt (Nat.lt_add_of_pos_right (by decide)))⟩
  ll := x.ll.to e A.laL
  lots := lots_keep (X := None) x.lots (Lk.of e fun a vs q l => by subst q; exact ns_nolist x.ns vs l) e.tup fun _ _ _ => id
theorem ne_add {L i j : Nat} (h : i ≠ j) : L + i ≠ L + j := fun e => h (Nat.add_left_cancel e)
theorem Ext.off {h h' : Heap} {a it : Addr} (e : Ext (· = a) h h') (n : a ≠ it) : Ext (· ≠ it) h h' := e.mono (by rintro b rfl; exact n)
theorem neL {L : Nat} (i : Nat) (h : i ≠ 0) : L + i ≠ L := fun e => h (by omega)
theorem ne_add0 {L i : Nat} (h : i ≠ 0) : L ≠ L + i := fun e => h (by omega)
/-- a cell beside that of lots is set -/
theorem AllSt.cell {i : Nat} {v : Option Value} (A : Adrs h L la) (x : AllSt h h' L ol la prev vsL m) (e : Ext (· = L + i) h' h'') (hi : i = 2 ∨ i = 3 ∨ i = 4) (hc : h''.IsCell (L + i) v) : AllSt h h'' L ol la prev vsL m := by
  have old : ∃ w, h'.IsCell (L + i) w := by rcases hi with rfl | rfl | rfl; exact x.c2; exact x.c3; exact x.c4
  obtain ⟨w, old⟩ := old
  have c0 : h.get? (L + i) = none := by rcases hi with rfl | rfl | rfl; exact A.c20; exact A.c30; exact A.c40
  have nla : la ≠ L + i := by rcases hi with rfl | rfl | rfl; exact A.la2; exact A.la3; exact A.la4
  have i1 : i ≠ 1 := by omega
  have i0 : i ≠ 0 := by omega
  refine ⟨x.E.at e c0, ns_to x.ns e (ne_add0 i0), x.mo, cell_to x.c1 e (ne_add i1.symm), ?_, ?_, ?_, x.ll.to e nla, lots_keep (X := None) x.lots (Lk.of e fun a vs q l => by subst q; exact cell_nolist old vs l) e.tup fun _ _ _ => id⟩
  · by_cases q : i = 2
    · subst q; exact ⟨_, hc⟩
    · obtain ⟨v, p⟩ := x.c2; exact ⟨v, cell_to p e (ne_add (Ne.symm q))⟩
  · by_cases q : i = 3
    · subst q; exact ⟨_, hc⟩
    · obtain ⟨v, p⟩ := x.c3; exact ⟨v, cell_to p e (ne_add (Ne.symm q))⟩
  · by_cases q : i = 4
    · subst q; exact ⟨_, hc⟩
    · obtain ⟨v, p⟩ := x.c4; exact ⟨v, cell_to p e (ne_add (Ne.symm q))⟩
/-- an iterator goes on -/
theorem AllSt.it {it : Addr} (x : AllSt h h' L ol la prev vsL m) (e : But (· = it) h' h'') (t : Tk h' h'') (k : ∀ vs, ¬ LstAt h' it vs) (n0 : h.get? it = none) (n : it ≠ L ∧ it ≠ L + 1 ∧ it ≠ L + 2 ∧ it ≠ L + 3 ∧ it ≠ L + 4) : AllSt h h'' L ol la prev vsL m where
  E := x.E.fins e (by rintro b rfl; exact n0)
  ns := ns_but x.ns e n.1.symm
  mo := x.mo
  c1 := cell_but x.c1 e n.2.1.symm
  c2 := let ⟨v, p⟩ := x.c2; ⟨v, cell_but p e n.2.2.1.symm⟩
  c3 := let ⟨v, p⟩ := x.c3; ⟨v, cell_but p e n.2.2.2.1.symm⟩
  c4 := let ⟨v, p⟩ := x.c4; ⟨v, cell_but p e n.2.2.2.2.symm⟩
  ll := Lk.but e k _ _ id x.ll
  lots := lots_keep (X := None) x.lots (Lk.but e k) t fun _ _ _ => id
/-- the list lt is changed -/
theorem AllSt.app {lt : Addr} {tv : List Value} (x : AllSt h h' L ol la prev vsL m) (e : Ext (· = lt) h' h'') (l : LstAt h' lt tv) (nla : lt ≠ la) (n0 : h.get? lt = none) (nv : ∀ a, .ref a ∈ vsL → a ≠ lt) : AllSt h h'' L ol la prev vsL m := by
  have nc : ∀ {c v}, h'.IsCell c v → ¬ (c = lt) := fun q e => cell_nolist q _ (e ▸ l)
  refine ⟨x.E.at e n0, ns_to x.ns e fun q => ns_nolist x.ns tv (by have q : L = lt := q; rw [q]; exact l), x.mo, cell_to x.c1 e (nc x.c1), ?_, ?_, ?_, x.ll.to e nla.symm, lots_keep (X := (· = lt)) x.lots (Lk.of e fun _ _ q _ => q) e.tup fun a q _ => nv a q⟩
  · obtain ⟨v, p⟩ := x.c2; exact ⟨v, cell_to p e (nc p)⟩
  · obtain ⟨v, p⟩ := x.c3; exact ⟨v, cell_to p e (nc p)⟩
  · obtain ⟨v, p⟩ := x.c4; exact ⟨v, cell_to p e (nc p)⟩
theorem AllSt.at (x : AllSt h h' L ol la prev vsL m) (hz : ∀ l, l ∈ prev → l.length ≤ 50) {q : Nat} (hq : q < prev.length) : ∃ pl lv lw, prev[q]? = some pl ∧ vsL[q]? = some (.ref lv) ∧ LstAt h' lv lw ∧ All2 (TermAt h') pl lw ∧ lw.length ≤ 50 ∧ prev.getD q [] = pl := by
  obtain ⟨pl, hpl⟩ : ∃ pl, prev[q]? = some pl := ⟨_, List.getElem?_eq_getElem hq⟩
  obtain ⟨_, hv', lv, lw, rfl, _, llv, alw⟩ := x.lots.get' hpl
  exact ⟨pl, lv, lw, hpl, hv', llv, alw, by rw [← alw.length]; exact hz _ (List.mem_of_getElem? hpl), by unfold List.getD; rw [hpl]; rfl⟩
/-- what is there is no new iterator -/
theorem AllSt.ne_it {it : Addr} (x : AllSt h h' L ol la prev vsL m) (n : h'.get? it = none) : it ≠ L ∧ it ≠ L + 1 ∧ it ≠ L + 2 ∧ it ≠ L + 3 ∧ it ≠ L + 4 :=
  ⟨(ne_new (ns_some x.ns) n).symm, (ne_new (cell_some x.c1) n).symm, let ⟨_, p⟩ := x.c2; (ne_new (cell_some p) n).symm, let ⟨_, p⟩ := x.c3; (ne_new (cell_some p) n).symm, let ⟨_, p⟩ := x.c4; (ne_new (cell_some p) n).symm⟩
end

theorem grow2_len (o : Str) (L R : List T) : (grow2 o L R).length = L.length * R.length := by
  unfold grow2
  induction L with
  | nil => simp
  | cons x L ih => rw [List.flatMap_cons, List.length_append, ih, List.length_map, List.length_cons, Nat.succ_mul]; omega
theorem grow2_snoc {o : Str} {L R : List T} {p : Nat} {x : T} (h : L[p]? = some x) : grow2 o (L.take (p + 1)) R = grow2 o (L.take p) R ++ R.map (T.two o x) := by
  unfold grow2; rw [take_snoc h, List.flatMap_append]; simp
section
variable {prog : Program} {w : World} {g : Shared} {hb : Heap} {A : Around} {h : Heap} {env : Env}
theorem b_and_same {x y : Expr} {pos : Pos} {whole : Sem Value} {Q : Bool → Heap → Prop} (p q : Bool) (kx : W prog w g A (isTrue x env (eval x env)) (fun b h₁ => b = p ∧ h₁ = h) h) (ky : W prog w g A (isTrue y env (eval y env)) (fun b h₁ => b = q ∧ h₁ = h) h) (k : Q (p && q) h) :
    W prog w g A (isTrue (.BoolOp .And [x, y] pos) env whole) Q h :=
  b_and2 <| kx.mono fun b h₁ ⟨e1, e2⟩ => by
    subst e1 e2
    cases b
    · simpa using k
    · rw [if_pos rfl]
      exact ky.mono fun b h₁ ⟨e1, e2⟩ => by subst e1 e2; simpa using k
theorem all_ok {ol : Addr} {ov : List Value} {ops : List (Str × Nat)} {u : Tok} {Q : Value → Heap → Prop} (B : Base w hb) (S : St hb h) (R : Rm A 1) (lo : LstAt h ol ov) (ao : All2 (OpAt h) ops ov) (hlen : ops.length ≤ 10) (hk2 : ∀ x, x ∈ ops → x.2 ≤ 2)
    (hz : ∀ m, m ≤ 4 → ∀ l, l ∈ lotsP ops m → l.length ≤ 50)
    (k : ∀ h₁ a vs, Ext None h h₁ → h.get? a = none → LstAt h₁ a vs → All2 (LotAt a h₁) (lotsP ops 4) vs → Q (.ref a) h₁) : W prog w g A (call (.ref 209) [.ref ol, .int 4 u]) Q h := by
  refine call_defC (k := 0) [("ops", .ref ol), ("most", .int 4 u)] B S R rfl rfl rfl rfl rfl rfl rfl fun h₁ L e₁ S₁ R₁ hL hC hn₁ hcs => ?_
  have k1 : h₁.IsCell (L + 1) none := hcs "lots" (L + 1) rfl
  have k2 : h₁.IsCell (L + 2) none := hcs "many" (L + 2) rfl
  have k3 : h₁.IsCell (L + 3) none := hcs "op" (L + 3) rfl
  have k4 : h₁.IsCell (L + 4) none := hcs "left" (L + 4) rfl
  have c10 : h.get? (L + 1) = none := hC "lots" (L + 1) (by simp [cellsFrom])
  have c20 : h.get? (L + 2) = none := hC "many" (L + 2) (by simp [cellsFrom])
  have c30 : h.get? (L + 3) = none := hC "op" (L + 3) (by simp [cellsFrom])
  have c40 : h.get? (L + 4) = none := hC "left" (L + 4) (by simp [cellsFrom])
  -- lots = [[]]
  refine W.hideL ?_
  intro K
  refine x_cons ?_
  refine W.hideL ?_
  intro K
  refine x_assign <| e_lst <| i_cons <| e_lst <| i_nil ⟨Nat.le_of_ble_eq_true rfl, fun h₂ l0 e₂ n0 ll0 => i_nil ⟨Nat.le_of_ble_eq_true rfl, fun h₃ la e₃ nla lla => st_cell rfl (cell_to (cell_to k1 e₂) e₃) fun h₄ e₄ c1 => ?_⟩⟩
  have e13 := e₂.trans e₃
  have AD : Adrs h L la := ⟨hL, c10, c20, c30, c40, (e₁.trans e₂).new nla, (ne_new (ns_some (ns_to hn₁ e₂)) nla).symm, (ne_new (cell_some (cell_to k1 e₂)) nla).symm, (ne_new (cell_some (cell_to k2 e₂)) nla).symm, (ne_new (cell_some (cell_to k3 e₂)) nla).symm, (ne_new (cell_some (cell_to k4 e₂)) nla).symm⟩
  have n14 : ∀ {i : Nat}, i ≠ 1 → ¬ (L + i = L + 1) := fun h => ne_add h
  have l0la : l0 ≠ la := ne_new ll0.some nla
  have l01 : l0 ≠ L + 1 := (ne_new (cell_some k1) n0).symm
  have st₄ : AllSt h h₄ L ol la (lotsP ops 0) [.ref l0] _ := ⟨((e₁.trans e₂).trans e₃).at e₄ c10, ns_to (ns_to (ns_to hn₁ e₂) e₃) e₄ (ne_add0 (by decide)), rfl, c1, ⟨_, cell_to (cell_to k2 e13) e₄ (n14 (by decide))⟩, ⟨_, cell_to (cell_to k3 e13) e₄ (n14 (by decide))⟩, ⟨_, cell_to (cell_to k4 e13) e₄ (n14 (by decide))⟩, lla.to e₄ AD.la1,
    .cons ⟨l0, [], rfl, l0la, (ll0.to e₃).to e₄ l01, .nil⟩ .nil⟩
  have S₄ := S.to st₄.E
  -- for many in range(1, most + 1)
  refine W.hideL ?_
  intro K
  refine x_cons ?_
  refine W.hideL ?_
  intro K
  refine x_forK <| c_bi B S₄ n_range <| i_cons <| e_int fun _ => i_cons <| e_bin <| e_local st₄.ns rfl <| e_int fun _ => o_add fun _ => i_nil ⟨S₄, c_range2 fun h₅ r e₅ hr => src_range R₁.hh hr (by decide) (by decide) fun h₆ it Sr e₆ X s0 => ?_⟩
  have st₅ := st₄.keep e₅
  have itn := st₅.ne_it X.new
  have it0 : h.get? it = none := st₅.E.new X.new
  refine ⟨it, _, _, Sr, _, rfl, X, s0, e₆, fun i h' => ∃ vsL m, AllSt h h' L ol la (lotsP ops i) vsL m, ⟨_, _, st₅.keep e₆⟩, ?_, ?_, ?_⟩
  · rintro i h' h'' ⟨vsL, m, st⟩ bt tk nl
    exact ⟨vsL, m, st.it bt tk nl it0 itn⟩
  · rintro i v h₇ hi ⟨tv, rfl⟩ ⟨vsL, m, st⟩ nlit livit
    have hi4 : i < 4 := hi
    have hzp : ∀ l, l ∈ lotsP ops i → l.length ≤ 50 := hz i (by omega)
    have hzl : (lotP (lotsP ops i) (i + 1) ops).length ≤ 50 := hz (i + 1) (by omega) _ (by rw [lotsP]; simp)
    have hpl : (lotsP ops i).length = i + 1 := lotsP_len ops i
    obtain ⟨_, c2⟩ := st.c2
    refine asg_cell rfl c2 fun h₈ e₈ cm => ?_
    have st₈ := st.cell AD e₈ (.inl rfl) cm
    -- lot = []
    refine W.hideL ?_
    intro K
    refine x_cons ?_
    refine W.hideL ?_
    intro K
    refine x_assign <| e_lst <| i_nil ⟨Nat.le_of_ble_eq_true rfl, fun h₉ l1 e₉ nl1 ll1 => st_local (st₈.keep e₉).ns fun h₁₀ e₁₀ n₁₀ => ?_⟩
    have st₁₀ := (st₈.keep e₉).loc AD e₁₀ n₁₀ st₈.mo
    have l1L : l1 ≠ L := (ne_new (ns_some st₈.ns) nl1).symm
    have S₁₀ := S.to st₁₀.E
    have liv8 : h₈.get? it ≠ none := by
      cases q : h₇.get? it with
      | none => exact absurd q livit
      | some o => obtain ⟨o', q'⟩ := e₈.live it o q; rw [q']; exact nofun
    have l1it : l1 ≠ it := (ne_new liv8 nl1).symm
    have liv10 : ∀ h', Ext (· ≠ it) h₁₀ h' → h'.get? it ≠ none := fun h' e => by
      cases q : h₈.get? it with
      | none => exact absurd q liv8
      | some o =>
        obtain ⟨o1, q1⟩ := e₉.live it o q
        obtain ⟨o2, q2⟩ := e₁₀.live it o1 q1
        obtain ⟨o3, q3⟩ := e.live it o2 q2
        rw [q3]; exact nofun
    have ne2 : ∀ {a b : Nat}, a ≠ b → L + a ≠ L + b := fun h => ne_add h
    -- for op, kids in ops
    refine W.hideL ?_
    intro K
    refine x_cons ?_
    refine W.hideL ?_
    intro K
    refine x_forK <| e_local st₁₀.ns st₁₀.mo <| src_list R₁.hh (lo.to st₁₀.E) fun h₁₁ it2 Sr2 e₁₁ X2 s2 => ?_
    have itn2 := st₁₀.ne_it X2.new
    have it20 : h.get? it2 = none := st₁₀.E.new X2.new
    refine ⟨it2, _, _, Sr2, _, rfl, X2, s2, e₁₁, fun j h' => ∃ vsL m lt tv, AllSt h h' L ol la (lotsP ops i) vsL m ∧ (∃ tk, h'.IsCell (L + 2) (some (.int (1 + i) tk))) ∧ m "lot" = some (.ref lt) ∧ LstAt h' lt tv ∧
      All2 (TermAt h') (lotP (lotsP ops i) (i + 1) (ops.take j)) tv ∧ lt ≠ la ∧ h.get? lt = none ∧ (∀ a, .ref a ∈ vsL → a ≠ lt) ∧ lt ≠ it ∧ Ext (· ≠ it) h₁₀ h',
      ⟨vsL, _, l1, [], st₁₀.keep e₁₁, ⟨_, cell_to (cell_to (cell_to cm e₉) e₁₀ (neL 2 (by decide))) e₁₁⟩, rfl, (ll1.to e₁₀ l1L).to e₁₁, .nil, (ne_new st₈.ll.some nl1).symm, st₈.E.new nl1, fun a ha => ?_, l1it, e₁₁.of⟩, ?_, ?_, ?_⟩
    · obtain ⟨q, hq⟩ := List.mem_iff_getElem?.mp ha
      obtain ⟨_, _, a', tv', e, _, l', _⟩ := st₈.lots.get hq
      cases e
      exact ne_new l'.some nl1
    · rintro j h' h'' ⟨vsL, m, lt, tv, st, ⟨tk, cm⟩, ml, llt, att, a1, a2, a3, a4, E10⟩ bt tkk nl
      exact ⟨vsL, m, lt, tv, st.it bt tkk nl it20 itn2, ⟨tk, cell_but cm bt itn2.2.2.1.symm⟩, ml, Lk.but bt nl _ _ id llt, terms_tk att tkk, a1, a2, a3, a4, E10.fins bt (by rintro b rfl; exact X2.new)⟩
    · rintro j v h₁₂ hj hv ⟨vsL, m, lt, tv, st, ⟨tk, cm⟩, ml, llt, att, a1, a2, a3, a4, E10⟩ nlit2 _
      obtain ⟨⟨o, kd⟩, hx, pa, uo, uk, rfl, tpa⟩ := ao.get hv
      have hkd2 : kd ≤ 2 := hk2 _ (List.mem_of_getElem? hx)
      have tke : lotP (lotsP ops i) (i + 1) (ops.take (j + 1)) = lotP (lotsP ops i) (i + 1) (ops.take j) ++ piece (lotsP ops i) (i + 1) (o, kd) := by
        unfold lotP; rw [take_snoc hx, List.flatMap_append]; simp
      have hcur : tv.length ≤ 50 := by rw [← att.length]; exact Nat.le_trans (lotP_take_le _ _ _ _) hzl
      obtain ⟨_, c3⟩ := st.c3
      refine asg_tup R₁.hh (tpa.to st.E) rfl fun h₁₃ e₁₃ => aio_cons <| asg_cell rfl (cell_to c3 e₁₃) fun h₁₄ e₁₄ co => ?_
      have st₁₄ := (st.keep e₁₃).cell AD e₁₄ (.inr (.inl rfl)) co
      refine aio_cons <| asg_local st₁₄.ns fun h₁₅ e₁₅ n₁₅ => aio_nil ?_
      have st₁₅ := st₁₄.loc AD e₁₅ n₁₅ st.mo
      have co₁₅ := cell_to co e₁₅ (neL 3 (by decide))
      have cm₁₅ := cell_to (cell_to (cell_to cm e₁₃) e₁₄ (@ne2 2 3 (by decide))) e₁₅ (neL 2 (by decide))
      have lt3 : lt ≠ L + 3 := fun q => cell_nolist c3 tv (q ▸ llt)
      have ltL : lt ≠ L := fun q => ns_nolist st.ns tv (by rw [← q]; exact llt)
      have llt₁₅ := ((llt.to e₁₃).to e₁₄ lt3).to e₁₅ ltL
      have e1215 : Ext (fun a => a = L ∨ a = L + 3) h₁₂ h₁₅ := e₁₃.of.trans ((e₁₄.mono fun _ => .inr).trans (e₁₅.mono fun _ => .inl))
      have att₁₅ := terms_to att e1215
      have S₁₅ := S.to st₁₅.E
      have E15 : Ext (· ≠ it) h₁₀ h₁₅ := E10.trans (e1215.mono fun b q r => q.elim (fun q => itn.1 (r.symm.trans q)) fun q => itn.2.2.2.1 (r.symm.trans q))
      have olL : ∀ a, h.get? a = none → ol ≠ a := fun a q => ne_new lo.some q
      -- what is left to show when nothing is added
      have same : ∀ h', Ext None h₁₅ h' → piece (lotsP ops i) (i + 1) (o, kd) = [] → TurnK h₁₂ h' it2 (· = ol) (∃ vsL m lt tv, AllSt h h' L ol la (lotsP ops i) vsL m ∧ (∃ tk, h'.IsCell (L + 2) (some (.int (1 + i) tk))) ∧ m "lot" = some (.ref lt) ∧ LstAt h' lt tv ∧
          All2 (TermAt h') (lotP (lotsP ops i) (i + 1) (ops.take (j + 1))) tv ∧ lt ≠ la ∧ h.get? lt = none ∧ (∀ a, .ref a ∈ vsL → a ≠ lt) ∧ lt ≠ it ∧ Ext (· ≠ it) h₁₀ h') := fun h' e hp => by
        refine ⟨⟨fun a => a = L ∨ a = L + 3, e1215.trans e.of, fun q => q.elim itn2.1 itn2.2.2.2.1, ?_⟩, vsL, _, lt, tv, st₁₅.keep e, ⟨tk, cell_to cm₁₅ e⟩, ml, llt₁₅.to e, ?_, a1, a2, a3, a4, E15.trans e.of⟩
        · rintro b rfl q
          exact q.elim (olL _ hL) (olL _ c30)
        · rw [tke, hp, List.append_nil]; exact terms_to att₁₅ e
      refine W.hideL ?_
      intro K
      refine x_cons ?_
      refine W.hideL ?_
      intro K
      refine x_if <| b_and_same ((kd : Int) == 0) ((1 + i : Int) == 1) (b_cmp <| e_local n₁₅ rfl <| e_int fun _ => o_eq ⟨_, rfl, rfl, rfl⟩) (b_cmp <| e_cell rfl cm₁₅ <| e_int fun _ => o_eq ⟨_, rfl, rfl, rfl⟩) ?_
      by_cases h00 : kd = 0 ∧ i = 0
      · obtain ⟨rfl, rfl⟩ := h00
        rw [if_pos (by simp)]
        -- lot.append((op,))
        refine W.hideL ?_
        intro K
        refine x_cons ?_
        refine W.hideL ?_
        intro K
        refine x_expr <| m_list F.slot_list_append F.type_list_append <| e_local n₁₅ ml ⟨lt, tv, rfl, llt₁₅, i_cons <| e_tup <| i_cons <| e_cell rfl co₁₅ <| i_nil ⟨Nat.le_of_ble_eq_true rfl, fun h₁₆ p e₁₆ _ tp => i_nil <| c_append (llt₁₅.to e₁₆) (by omega) fun h₁₇ e₁₇ ll₁₇ => ⟨rfl, x_nil <| x_nil ?_⟩⟩⟩
        have st₁₇ := (st₁₅.keep e₁₆).app e₁₇ (llt₁₅.to e₁₆) a1 a2 a3
        have cm₁₇ := cell_to (cell_to cm₁₅ e₁₆) e₁₇ (fun q => cell_nolist cm₁₅ tv (by rw [q]; exact llt₁₅))
        have e1517 : Ext (· = lt) h₁₅ h₁₇ := e₁₆.of.trans e₁₇
        refine ⟨⟨fun a => (a = L ∨ a = L + 3) ∨ a = lt, (e1215.mono fun _ => .inl).trans (e1517.mono fun _ => .inr), ?_, ?_⟩, vsL, _, lt, _, st₁₇, ⟨tk, cm₁₇⟩, ml, ll₁₇, ?_, a1, a2, a3, a4, E15.trans (e1517.mono fun b q r => a4 (q.symm.trans r))⟩
        · rintro ((q | q) | q)
          · exact itn2.1 q
          · exact itn2.2.2.2.1 q
          · exact nlit2 tv (by rw [q]; exact llt)
        · rintro b rfl ((q | q) | q)
          · exact olL _ hL q
          · exact olL _ c30 q
          · exact olL _ a2 q
        · rw [tke]
          refine (terms_to att₁₅ e1517).append ?_
          rw [show piece (lotsP ops 0) (0 + 1) (o, 0) = [T.leaf o] from rfl]
          exact .cons ⟨p, uo, rfl, tp.to e₁₇⟩ .nil
      rw [if_neg (by simp; omega)]
      -- elif kids == 1
      refine W.hideL ?_
      intro K
      refine x_cons ?_
      refine W.hideL ?_
      intro K
      refine x_if <| b_cmp <| e_local n₁₅ rfl <| e_int fun _ => o_eq ⟨_, rfl, ?_⟩
      have prevAt : ∀ (q : Nat), q ≤ i → ∃ pl lv lw, (lotsP ops i)[q]? = some pl ∧ vsL[q]? = some (.ref lv) ∧ LstAt h₁₅ lv lw ∧ All2 (TermAt h₁₅) pl lw ∧ lw.length ≤ 50 ∧ (lotsP ops i).getD q [] = pl := fun q hq => by
        obtain ⟨pl, hpl'⟩ : ∃ pl, (lotsP ops i)[q]? = some pl := ⟨_, List.getElem?_eq_getElem (by omega)⟩
        obtain ⟨_, hv', lv, lw, rfl, _, llv, alw⟩ := st₁₅.lots.get' hpl'
        exact ⟨pl, lv, lw, hpl', hv', llv, alw, by rw [← alw.length]; exact hzp _ (List.mem_of_getElem? hpl'), by unfold List.getD; rw [hpl']; rfl⟩
      by_cases h1 : kd = 1
      · subst h1
        rw [if_pos (by simp)]
        obtain ⟨pl, lv, lw, hpl', hv', llv, alw, hlw, hgd⟩ := prevAt i (Nat.le_refl _)
        refine W.hideL ?_
        intro K
        refine x_cons ?_
        refine W.hideL ?_
        intro K
        refine x_assign <| e_bin <| e_local n₁₅ ml <| e_compJ [("op", L + 3)] rfl (by decide) rfl (by decide) <| e_sub <| e_cell rfl st₁₅.c1 <| e_bin <| e_cell rfl cm₁₅ <| e_int fun _ => o_sub fun _ => ?_
        rw [show (1 + (i : Int) - 1) = (i : Int) by omega]
        refine t_list (.ref lv) st₁₅.ll (by omega) (by omega) (by simpa using hv') <| src_list R₁.hh llv fun h₁₆ it3 Sr3 e₁₆ X3 s3 => ?_
        refine ⟨it3, _, _, Sr3, _, rfl, X3, s3, e₁₆, by omega, J2 None h₁₅ (fun h' t v => TermAt h' t v) (pl.map (T.one o)), .zero, J2.stab fun _ _ _ _ q k => q.tk k, ?_, ?_⟩
        · intro q v ys h' C mC hq hv j2 hl nsC nC
          obtain ⟨t, ht, att⟩ := alw.get hv
          refine asg_local nsC fun h₁₇ e₁₇ n₁₇ => ?_
          have e1517 : Ext None h₁₅ h₁₇ := j2.1.at e₁₇ nC
          refine e_tup <| i_cons <| e_cell rfl (cell_to co₁₅ e1517) <| i_cons <| e_local n₁₇ rfl <| i_nil ⟨Nat.le_of_ble_eq_true rfl, fun h₁₈ p e₁₈ _ tp => ?_⟩
          exact ⟨⟨_, e₁₇.trans e₁₈.of, fun b q => .inl q⟩, ⟨_, ns_to n₁₇ e₁₈⟩, j2.snoc (x := T.one o t) (fun _ _ _ _ q k => q.tk k) (e₁₇.trans e₁₈.of) (by rintro b rfl; exact .inr nC) (by rw [List.getElem?_map, ht]; rfl) ⟨p, uo, v, rfl, tp, (att.to e1517).to e₁₈⟩⟩
        intro ys D h₁₇ j2 hyl lD nD
        have ay := j2.all (by rw [List.length_map, alw.length]; omega)
        refine o_add_lst (llt₁₅.to j2.1) lD (by omega) fun h₁₈ lt' e₁₈ nlt' llt' => st_local (ns_to (ns_to n₁₅ j2.1) e₁₈) fun h₁₉ e₁₉ n₁₉ => x_nil <| x_nil <| x_nil ?_
        have e1518 := j2.1.trans e₁₈
        have ltL' : lt' ≠ L := (ne_new (ns_some (ns_to n₁₅ j2.1)) nlt').symm
        have st₁₉ := (st₁₅.keep e1518).loc AD e₁₉ n₁₉ st.mo
        refine ⟨⟨fun a => a = L ∨ a = L + 3, (e1215.trans e1518.of).trans (e₁₉.mono fun _ => .inl), fun q => q.elim itn2.1 itn2.2.2.2.1, ?_⟩, vsL, _, lt', _, st₁₉, ⟨tk, cell_to (cell_to cm₁₅ e1518) e₁₉ (neL 2 (by decide))⟩, rfl, llt'.to e₁₉ ltL', ?_, ?_, ?_, ?_, (ne_new (liv10 _ (E15.trans j2.1.of)) nlt').symm, (E15.trans e1518.of).trans (e₁₉.mono fun b q r => itn.1 (r.symm.trans q))⟩
        · rintro b rfl q
          exact q.elim (olL _ hL) (olL _ c30)
        · rw [tke, show piece (lotsP ops i) (i + 1) (o, 1) = pl.map (T.one o) by unfold piece; rw [if_neg (by simp), if_pos rfl, Nat.add_sub_cancel, hgd]]
          exact (terms_to (terms_to att₁₅ e1518) e₁₉).append (terms_to (terms_to ay e₁₈) e₁₉)
        · exact (ne_new (st₁₅.ll.to j2.1).some nlt').symm
        · exact (st₁₅.E.trans j2.1).new nlt'
        · intro a ha
          obtain ⟨q, hq⟩ := List.mem_iff_getElem?.mp ha
          obtain ⟨_, _, a', tv', e, _, l', _⟩ := (st₁₅.keep j2.1).lots.get hq
          cases e
          exact ne_new l'.some nlt'
      rw [if_neg (by simp; omega)]
      -- elif kids == 2
      refine W.hideL ?_
      intro K
      refine x_cons ?_
      refine W.hideL ?_
      intro K
      refine x_if <| b_cmp <| e_local n₁₅ rfl <| e_int fun _ => o_eq ⟨_, rfl, ?_⟩
      by_cases h2 : kd = 2
      case neg =>
        rw [if_neg (by simp; omega)]
        refine x_nil <| x_nil <| x_nil <| x_nil (same _ .refl ?_)
        unfold piece
        rw [if_neg (by simp; omega), if_neg (by simpa using h1), if_neg (by simpa using h2)]
      subst h2
      rw [if_pos (by simp)]
      -- for left in range(1, many - 1)
      refine W.hideL ?_
      intro K
      refine x_cons ?_
      refine W.hideL ?_
      intro K
      refine x_forK <| c_bi B S₁₅ n_range <| i_cons <| e_int fun _ => i_cons <| e_bin <| e_cell rfl cm₁₅ <| e_int fun _ => o_sub fun _ => i_nil ⟨S₁₅, c_range2 fun h₁₆ r e₁₆ hr => src_range R₁.hh hr (by decide) (by omega) fun h₁₇ it3 Sr3 e₁₇ X3 s3 => ?_⟩
      have e1516 := e₁₆
      have st₁₆ := st₁₅.keep e₁₆
      have itn3 := st₁₆.ne_it X3.new
      have it30 : h.get? it3 = none := st₁₆.E.new X3.new
      have it312 : h₁₂.get? it3 = none := (e1215.trans e₁₆.of).new X3.new
      have hcnt : (1 + (i : Int) - 1 - 1).toNat = i - 1 := by omega
      have e1217 : Ext (fun a => a = L ∨ a = L + 3 ∨ a = L + 4) h₁₂ h₁₇ := ((e1215.trans e₁₆.of).trans e₁₇.of).mono fun a q => q.elim .inl fun q => .inr (.inl q)
      rw [hcnt] at X3
      refine ⟨it3, _, _, Sr3, _, rfl, X3, s3, e₁₇, fun q h' => ∃ lt tv m, AllSt h h' L ol la (lotsP ops i) vsL m ∧ h'.IsCell (L + 3) (some (.str o uo)) ∧ h'.IsCell (L + 2) (some (.int (1 + i) tk)) ∧ m "lot" = some (.ref lt) ∧ LstAt h' lt tv ∧
        All2 (TermAt h') (lotP (lotsP ops i) (i + 1) (ops.take j) ++ lefts (lotsP ops i) o (i + 1) q) tv ∧ lt ≠ la ∧ h.get? lt = none ∧ (∀ a, .ref a ∈ vsL → a ≠ lt) ∧ lt ≠ it ∧ Ext (fun a => a = L ∨ a = L + 3 ∨ a = L + 4) h₁₂ h',
        ⟨lt, tv, _, st₁₆.keep e₁₇, cell_to (cell_to co₁₅ e₁₆) e₁₇, cell_to (cell_to cm₁₅ e₁₆) e₁₇, ml, (llt₁₅.to e₁₆).to e₁₇, by simpa [lefts] using terms_to (terms_to att₁₅ e₁₆) e₁₇, a1, a2, a3, a4, e1217⟩, ?_, ?_, ?_⟩
      · rintro q h' h'' ⟨lt, tv, m, st, co, cm, ml, llt, att, a1, a2, a3, a4, E⟩ bt tkk nl
        exact ⟨lt, tv, m, st.it bt tkk nl it30 itn3, cell_but co bt itn3.2.2.2.1.symm, cell_but cm bt itn3.2.2.1.symm, ml, Lk.but bt nl _ _ id llt, terms_tk att tkk, a1, a2, a3, a4, E.fins bt (by rintro b rfl; exact it312)⟩
      · rintro q v h₁₈ hq ⟨tq, rfl⟩ ⟨lt, tv, m, st, co, cm, ml, llt, att, a1, a2, a3, a4, E⟩ nlit3 _
        obtain ⟨_, c4⟩ := st.c4
        refine asg_cell rfl c4 fun h₁₉ e₁₉ cl => ?_
        have st₁₉ := st.cell AD e₁₉ (.inr (.inr rfl)) cl
        have co₁₉ := cell_to co e₁₉ (@ne2 3 4 (by decide))
        have cm₁₉ := cell_to cm e₁₉ (@ne2 2 4 (by decide))
        have llt₁₉ := llt.to e₁₉ (fun q => cell_nolist c4 tv (q ▸ llt))
        have E₁₉ := E.trans (e₁₉.mono fun _ q => .inr (.inr q))
        have att₁₉ := terms_to att e₁₉
        obtain ⟨pl1, lv1, lw1, hp1, hv1, ll1', al1, hlw1, hg1⟩ := st₁₉.at hzp (q := 1 + q) (by omega)
        obtain ⟨pl2, lv2, lw2, hp2, hv2, ll2', al2, hlw2, hg2⟩ := st₁₉.at hzp (q := i - 1 - q) (by omega)
        have htv : tv.length ≤ 50 + 2500 * q := by
          rw [← att.length, List.length_append]
          exact Nat.add_le_add (Nat.le_trans (lotP_take_le _ _ _ _) hzl) (lefts_len hzp q)
        have hq3 : q ≤ 2 := by omega
        refine W.hideL ?_
        intro K
        refine x_cons ?_
        refine W.hideL ?_
        intro K
        refine x_assign <| e_bin <| e_local st₁₉.ns ml <| e_compG [("op", L + 3), ("many", L + 2), ("lots", L + 1), ("left", L + 4)] rfl (by decide) rfl (by decide) <| e_sub <| e_cell rfl st₁₉.c1 <| e_cell rfl cl <|
          t_list (.ref lv1) st₁₉.ll (by omega) (by omega) (by rw [show ((1 : Int) + (q : Int)).toNat = 1 + q by omega]; exact hv1) <| iter_list ll1' fun h₂₀ it4 e₂₀ hit4 la4 hs4 => ⟨it4, rfl, fun D C h₂₁ e₂₁ nD nC neDC lD nsC => ?_⟩
        have it420 : h₂₀.get? it4 ≠ none := by obtain ⟨o, q, _⟩ := hs4.1; rw [q]; exact nofun
        have it4C : it4 ≠ C := ne_new it420 nC
        have it4D : it4 ≠ D := ne_new it420 nD
        have C19 : h₁₉.get? C = none := e₂₀.new nC
        have D19 : h₁₉.get? D = none := e₂₀.new nD
        have hs21 : h₂₁.IsListIter it4 lv1 0 ∧ LstAt h₂₁ lv1 lw1 := ⟨hs4.1.at fun _ q => e₂₁.keep _ _ id q, hs4.2.to e₂₁⟩
        refine ⟨fun h' => (∃ m, h'.Ns C m) ∧ Ext None h₁₉ h' ∧ ∃ ys, LstAt h' D ys ∧ All2 (TermAt h') (grow2 o pl1 pl2) ys,
          cw_outer (fun N h' => ∃ p ys m, p ≤ lw1.length ∧ N = lw1.length - p ∧ (h'.IsListIter it4 lv1 p ∧ LstAt h' lv1 lw1) ∧ Ext None h₁₉ h' ∧ LstAt h' D ys ∧ All2 (TermAt h') (grow2 o (pl1.take p) pl2) ys ∧ h'.Ns C m) lw1.length
            ⟨0, [], _, Nat.zero_le _, rfl, hs21, e₂₀.trans e₂₁, lD, .nil, nsC⟩ ?_, (It.list R₁.hh la4).self 0 _ _ hs21 ⟨rfl, rfl⟩, ?_⟩
        · rintro N h' ⟨p, ys, m, hp, rfl, hs, E', lD, ay, nsC⟩
          refine (It.list R₁.hh la4).turn hs hp (fun hp v h₂₂ hv hs₂₂ e₂₂ => asg_local (ns_to nsC e₂₂ it4C.symm) fun h₂₃ e₂₃ n₂₃ => ?_) fun hp h₂₂ k₂₂ => ?_
          · obtain ⟨x, hx, ax⟩ := al1.get hv
            have E₂₃ : Ext None h₁₉ h₂₃ := (E'.at e₂₂ hit4).at e₂₃ C19
            have hys : ys.length ≤ 2500 := by
              rw [← ay.length, grow2_len, List.length_take]
              have := al1.length
              have := al2.length
              exact Nat.le_trans (Nat.mul_le_mul (by omega : _ ≤ 50) (by omega : _ ≤ 50)) (by decide)
            refine e_sub <| e_cell rfl (cell_to st₁₉.c1 E₂₃) <| e_bin <| e_bin <| e_cell rfl (cell_to cm₁₉ E₂₃) <| e_int fun _ => o_sub fun _ => e_cell rfl (cell_to cl E₂₃) <| o_sub fun _ => ?_
            rw [show (1 + (i : Int) - 1 - (1 + (q : Int))) = ((i - 1 - q : Nat) : Int) by omega]
            refine t_list (.ref lv2) (st₁₉.ll.to E₂₃) (by omega) (by omega) (by simpa using hv2) <| iter_list (ll2'.to E₂₃) fun h₂₄ it5 e₂₄ hit5 lb5 hs5 => ⟨(It.list R₁.hh lb5).self 0 _ _ hs5 ⟨rfl, rfl⟩, ?_⟩
            have C23 : h₂₃.get? C ≠ none := ns_some n₂₃
            have lD₂₃ : LstAt h₂₃ D ys := (lD.to e₂₂ it4D.symm).to e₂₃ neDC
            have it5C : C ≠ it5 := ne_new C23 hit5
            have it5D : D ≠ it5 := ne_new lD₂₃.some hit5
            refine ⟨fun h' => ∃ ys m, LstAt h' D ys ∧ All2 (TermAt h') (grow2 o (pl1.take (p + 1)) pl2) ys ∧ Ext (fun a => a = C ∨ a = D) h₂₃ h' ∧ h'.Ns C m,
              cw_last (pre := [⟨_, _, [], 0⟩]) 1 rfl (fun N ys h' => ∃ p2 m, p2 ≤ lw2.length ∧ N = lw2.length - p2 ∧ (h'.IsListIter it5 lv2 p2 ∧ LstAt h' lv2 lw2) ∧ Ext (fun a => a = C ∨ a = D) h₂₃ h' ∧
                All2 (TermAt h') (grow2 o (pl1.take p) pl2 ++ (pl2.take p2).map (T.two o x)) ys ∧ h'.Ns C m ∧ m "one" = some v) lw2.length ys
                ⟨0, _, Nat.zero_le _, rfl, hs5, e₂₄.of, by simpa using terms_to (terms_to (terms_to ay e₂₂) e₂₃) e₂₄, ns_to n₂₃ e₂₄, rfl⟩ (lD₂₃.to e₂₄) ?_, ?_⟩
            · rintro N ys' h' ⟨p2, m, hp2, rfl, hs, E'', ay', nsC', m1⟩ lD'
              refine (It.list R₁.hh lb5).turn hs hp2 (fun hp2 v2 h₂₅ hv2' hs₂₅ e₂₅ => asg_local (ns_to nsC' e₂₅ it5C) fun h₂₆ e₂₆ n₂₆ => ?_) fun hp2 h₂₅ k₂₅ => ?_
              · obtain ⟨y, hy, ay2⟩ := al2.get hv2'
                have E₂₆ : Ext (fun a => a = C ∨ a = D) h₂₃ h₂₆ := (E''.trans' e₂₅ (by rintro a rfl; exact .inr hit5)).trans (e₂₆.mono fun _ => .inl)
                have E1926 : Ext None h₁₉ h₂₆ := E₂₃.trans' E₂₆ (fun a q => .inr (q.elim (fun q => q ▸ C19) fun q => q ▸ D19))
                refine e_tup <| i_cons <| e_cell rfl (cell_to co₁₉ E1926) <| i_cons <| e_local n₂₆ m1 <| i_cons <| e_local n₂₆ rfl <| i_nil ⟨Nat.le_of_ble_eq_true rfl, fun h₂₇ tp e₂₇ _ ttp => ?_⟩
                have lD₂₇ : LstAt h₂₇ D ys' := ((lD'.to e₂₅ it5D).to e₂₆ neDC).to e₂₇
                have hys' : ys'.length ≤ 2550 := by
                  rw [← ay'.length, List.length_append, List.length_map, List.length_take]
                  have h1 := ay.length
                  have h2 := al2.length
                  omega
                refine ⟨lD₂₇, by omega, fun h₂₈ e₂₈ lD₂₈ => ⟨lw2.length - (p2 + 1), by omega, p2 + 1, _, hp2, rfl, ⟨hs₂₅.1.at fun _ q => e₂₈.keep _ _ it5D.symm (e₂₇.keep _ _ id (e₂₆.keep _ _ it5C.symm q)), ((hs₂₅.2.to e₂₆ (ne_new (ll2'.some) C19)).to e₂₇).to e₂₈ (ne_new (ll2'.some) D19)⟩,
                  (E₂₆.trans e₂₇.of).trans (e₂₈.mono fun _ => .inr), ?_, ns_to (ns_to n₂₆ e₂₇) e₂₈ neDC.symm, m1⟩⟩
                rw [take_snoc hy, List.map_append, ← List.append_assoc]
                refine (terms_to (terms_to (terms_to (terms_to ay' e₂₅) e₂₆) e₂₇) e₂₈).snoc ⟨tp, uo, v, v2, rfl, ttp.to e₂₈, ((ax.to E1926).to e₂₇).to e₂₈, ((ay2.to E1926).to e₂₇).to e₂₈⟩
              · have hp2 : p2 = lw2.length := hp2
                rw [show pl2.take p2 = pl2 from List.take_of_length_le (by rw [al2.length]; omega)] at ay'
                refine ⟨ys', m, lD'.fin k₂₅ it5D, ?_, E''.fin hit5 k₂₅, ns_fin nsC' k₂₅ it5C⟩
                rw [grow2_snoc hx]
                exact terms_tk ay' (.list k₂₅ hs.1)
            · rintro h' ⟨ys', m', lD', ay', E'', nsC'⟩
              refine ⟨lw1.length - (p + 1), by omega, p + 1, ys', m', hp, rfl, ⟨hs₂₂.1.at fun _ q => E''.keep _ _ (fun q => q.elim it4C it4D) (e₂₃.keep _ _ it4C q), (hs₂₂.2.to e₂₃ (ne_new (ll1'.some) C19)).to E'' (fun q => q.elim (ne_new (ll1'.some) C19) (ne_new (ll1'.some) D19))⟩,
                E₂₃.trans' E'' (fun a q => .inr (q.elim (fun q => q ▸ C19) fun q => q ▸ D19)), lD', ay', nsC'⟩
          · have hp : p = lw1.length := hp
            rw [show pl1.take p = pl1 from List.take_of_length_le (by rw [al1.length]; omega)] at ay
            exact ⟨⟨m, ns_fin nsC k₂₂ it4C.symm⟩, E'.fin hit4 k₂₂, ys, lD.fin k₂₂ it4D.symm, terms_tk ay (.list k₂₂ hs.1)⟩
        · rintro h₂₂ ⟨⟨mc, nsC⟩, E', ys, lD, ay⟩
          refine ⟨⟨mc, nsC⟩, fun h₂₃ k₂₃ => ?_⟩
          have e1923 : Ext None h₁₉ h₂₃ := E'.fin C19 k₂₃
          have hys : ys.length ≤ 2500 := by
            rw [← ay.length, grow2_len]
            have := al1.length
            have := al2.length
            exact Nat.le_trans (Nat.mul_le_mul (by omega : _ ≤ 50) (by omega : _ ≤ 50)) (by decide)
          refine o_add_lst (llt₁₉.to e1923) (lD.fin k₂₃ neDC) (by omega) fun h₂₄ lt' e₂₄ nlt' llt' => st_local (ns_to (ns_to st₁₉.ns e1923) e₂₄) fun h₂₅ e₂₅ n₂₅ => x_nil ?_
          have e1924 := e1923.trans e₂₄
          have ltL' : lt' ≠ L := (ne_new (ns_some (ns_to st₁₉.ns e1923)) nlt').symm
          have st₂₅ := (st₁₉.keep e1924).loc AD e₂₅ n₂₅ st.mo
          have E₂₅ := (E₁₉.trans e1924.of).trans (e₂₅.mono fun _ => .inl)
          refine ⟨⟨fun a => a = L + 4 ∨ a = L, (e₁₉.mono fun _ => .inl).trans (e1924.of.trans (e₂₅.mono fun _ => .inr)), fun q => q.elim itn3.2.2.2.2 itn3.1, fun b q => q.elim⟩, lt', _, _, st₂₅, cell_to (cell_to co₁₉ e1924) e₂₅ (neL 3 (by decide)), cell_to (cell_to cm₁₉ e1924) e₂₅ (neL 2 (by decide)), rfl, llt'.to e₂₅ ltL', ?_, ?_, ?_, ?_, (ne_new (liv10 _ (E10.trans ((E₁₉.trans e1923.of).mono fun b q r => q.elim (fun q => itn.1 (r.symm.trans q)) fun q => q.elim (fun q => itn.2.2.2.1 (r.symm.trans q)) fun q => itn.2.2.2.2 (r.symm.trans q)))) nlt').symm, E₂₅⟩
          · rw [lefts, ← List.append_assoc, show (lotsP ops i).getD (q + 1) [] = pl1 by rw [Nat.add_comm]; exact hg1, show (lotsP ops i).getD (i + 1 - 1 - (q + 1)) [] = pl2 by rw [show i + 1 - 1 - (q + 1) = i - 1 - q by omega]; exact hg2]
            exact (terms_to (terms_to att₁₉ e1924) e₂₅).append (terms_to (terms_to (terms_tk ay (.ns k₂₃ nsC)) e₂₄) e₂₅)
          · exact (ne_new (st₁₉.ll.to e1923).some nlt').symm
          · exact (st₁₉.E.trans e1923).new nlt'
          · intro a ha
            obtain ⟨q, hq⟩ := List.mem_iff_getElem?.mp ha
            obtain ⟨_, _, a', tv', e, _, l', _⟩ := (st₁₉.keep e1923).lots.get hq
            cases e
            exact ne_new l'.some nlt'
      · rintro h₁₈ ⟨lt, tv, m, st, co, cm, ml, llt, att, a1, a2, a3, a4, E⟩
        refine x_nil <| x_nil <| x_nil <| x_nil ⟨⟨_, E, ?_, ?_⟩, vsL, m, lt, tv, st, ⟨tk, cm⟩, ml, llt, ?_, a1, a2, a3, a4, E10.trans (E.mono fun b q r => q.elim (fun q => itn.1 (r.symm.trans q)) fun q => q.elim (fun q => itn.2.2.2.1 (r.symm.trans q)) fun q => itn.2.2.2.2 (r.symm.trans q))⟩
        · rintro (q | q | q)
          · exact itn2.1 q
          · exact itn2.2.2.2.1 q
          · exact itn2.2.2.2.2 q
        · rintro b rfl (q | q | q)
          · exact olL _ hL q
          · exact olL _ c30 q
          · exact olL _ c40 q
        · rw [tke, show piece (lotsP ops i) (i + 1) (o, 2) = lefts (lotsP ops i) o (i + 1) (i - 1) by unfold piece; rw [if_neg (by simp), if_neg (by simp), if_pos rfl]; rfl]
          exact att
    · rintro h₁₂ ⟨vsL, m, lt, tv, st, ⟨tk, cm⟩, ml, llt, att, a1, a2, a3, a4, E10⟩
      have S₁₂ := S.to st.E
      have hlo : ops.take ov.length = ops := List.take_of_length_le (by rw [ao.length]; exact Nat.le_refl _)
      rw [hlo] at att
      have hvl : vsL.length ≤ 10 := by have := st.lots.length; omega
      refine W.hideL ?_
      intro K
      refine x_cons ?_
      refine W.hideL ?_
      intro K
      refine x_expr <| m_list F.slot_list_append F.type_list_append <| e_cell rfl st.c1 ⟨la, _, rfl, st.ll, i_cons <| e_local st.ns ml <| i_nil <| c_append st.ll (by omega) fun h₁₃ e₁₃ ll₁₃ => ⟨rfl, x_nil ?_⟩⟩
      have nc : ∀ {c v}, h₁₂.IsCell c v → ¬ (c = la) := fun q e => cell_nolist q _ (e ▸ st.ll)
      have st₁₃ : AllSt h h₁₃ L ol la (lotsP ops (i + 1)) (vsL ++ [.ref lt]) m := by
        refine ⟨st.E.at e₁₃ AD.la0, ns_to st.ns e₁₃ AD.laL.symm, st.mo, cell_to st.c1 e₁₃ (nc st.c1), ?_, ?_, ?_, ll₁₃, ?_⟩
        · obtain ⟨v, p⟩ := st.c2; exact ⟨v, cell_to p e₁₃ (nc p)⟩
        · obtain ⟨v, p⟩ := st.c3; exact ⟨v, cell_to p e₁₃ (nc p)⟩
        · obtain ⟨v, p⟩ := st.c4; exact ⟨v, cell_to p e₁₃ (nc p)⟩
        · rw [lotsP]
          refine (lots_keep (X := (· = la)) st.lots (Lk.of e₁₃ fun _ _ q _ => q) e₁₃.tup fun _ _ q => q).snoc ⟨lt, tv, rfl, a1, llt.to e₁₃ a1, terms_to att e₁₃⟩
      have lait : la ≠ it := ne_new st₄.ll.some (e₅.new X.new)
      refine ⟨⟨(· ≠ it), ?_, fun q => q rfl, fun b q => q.elim⟩, _, m, st₁₃⟩
      exact (((Ext.off e₈ itn.2.2.1.symm).trans e₉.of).trans (Ext.off e₁₀ itn.1.symm)).trans (E10.trans (Ext.off e₁₃ lait))
  · rintro h₇ ⟨vsL, m, st⟩
    have st : AllSt h h₇ L ol la (lotsP ops 4) vsL m := st
    exact x_cons <| x_ret <| e_cell rfl st.c1 <| k _ _ _ st.E AD.la0 st.ll st.lots
end
end Mine

end

section
open PySem PySem.W PySem.Calls PyProof.Rows
namespace Mine

noncomputable def baseP (ops : List (Str × Nat)) : List T := (lotsP ops 4).getD 1 [] ++ (lotsP ops 4).getD 2 [] ++ (lotsP ops 4).getD 3 [] ++ (lotsP ops 4).getD 4 []

open T in
theorem base1 (a p q : Str) : baseP [(a, 0), (p, 1), (q, 2)] = [leaf a, one p (leaf a), one p (one p (leaf a)), two q (leaf a) (leaf a),
  one p (one p (one p (leaf a))), one p (two q (leaf a) (leaf a)), two q (leaf a) (one p (leaf a)), two q (one p (leaf a)) (leaf a)] := rfl
open T in
theorem base2 (a b p q : Str) : baseP [(a, 0), (b, 0), (p, 1), (q, 2)] = [leaf a, leaf b, one p (leaf a), one p (leaf b),
  one p (one p (leaf a)), one p (one p (leaf b)), two q (leaf a) (leaf a), two q (leaf a) (leaf b), two q (leaf b) (leaf a), two q (leaf b) (leaf b),
  one p (one p (one p (leaf a))), one p (one p (one p (leaf b))), one p (two q (leaf a) (leaf a)), one p (two q (leaf a) (leaf b)), one p (two q (leaf b) (leaf a)), one p (two q (leaf b) (leaf b)),
  two q (leaf a) (one p (leaf a)), two q (leaf a) (one p (leaf b)), two q (leaf b) (one p (leaf a)), two q (leaf b) (one p (leaf b)),
  two q (one p (leaf a)) (leaf a), two q (one p (leaf a)) (leaf b), two q (one p (leaf b)) (leaf a), two q (one p (leaf b)) (leaf b)] := rfl
open T in
theorem lots1 (a p q : Str) : lotsP [(a, 0), (p, 1), (q, 2)] 4 = [[], [leaf a], [one p (leaf a)], [one p (one p (leaf a)), two q (leaf a) (leaf a)],
  [one p (one p (one p (leaf a))), one p (two q (leaf a) (leaf a)), two q (leaf a) (one p (leaf a)), two q (one p (leaf a)) (leaf a)]] := rfl
open T in
theorem lots2 (a b p q : Str) : lotsP [(a, 0), (b, 0), (p, 1), (q, 2)] 4 = [[], [leaf a, leaf b], [one p (leaf a), one p (leaf b)],
  [one p (one p (leaf a)), one p (one p (leaf b)), two q (leaf a) (leaf a), two q (leaf a) (leaf b), two q (leaf b) (leaf a), two q (leaf b) (leaf b)],
  [one p (one p (one p (leaf a))), one p (one p (one p (leaf b))), one p (two q (leaf a) (leaf a)), one p (two q (leaf a) (leaf b)), one p (two q (leaf b) (leaf a)), one p (two q (leaf b) (leaf b)),
  two q (leaf a) (one p (leaf a)), two q (leaf a) (one p (leaf b)), two q (leaf b) (one p (leaf a)), two q (leaf b) (one p (leaf b)),
  two q (one p (leaf a)) (leaf a), two q (one p (leaf a)) (leaf b), two q (one p (leaf b)) (leaf a), two q (one p (leaf b)) (leaf b)]] := rfl
theorem lots_small {ops : List (Str × Nat)} (h : OpsOk ops) : ∀ m, m ≤ 4 → ∀ l, l ∈ lotsP ops m → l.length ≤ 50 := by
  have key : ∀ (ops : List (Str × Nat)), (lotsP ops 4).all (fun l => decide (l.length ≤ 50)) = true → ∀ m, m ≤ 4 → ∀ l, l ∈ lotsP ops m → l.length ≤ 50 := by
    intro ops h m hm l hl
    have pre : ∀ a b, a ≤ b → ∀ l, l ∈ lotsP ops a → l ∈ lotsP ops b := by
      intro a b hab
      induction hab with
      | refl => exact fun _ h => h
      | step _ ih => intro l hl; rw [lotsP]; exact List.mem_append_left _ (ih l hl)
    exact of_decide_eq_true (List.all_eq_true.mp h l (pre m 4 hm l hl))
  obtain ⟨i, j, p, q, _, _, _, _, _, rfl | rfl⟩ := h.is
  · exact key _ (by rw [lots1]; rfl)
  · exact key _ (by rw [lots2]; rfl)
theorem ops_two {ops : List (Str × Nat)} (h : OpsOk ops) : ∀ x, x ∈ ops → x.2 ≤ 2 := by
  obtain ⟨i, j, p, q, _, _, _, _, _, rfl | rfl⟩ := h.is <;> · intro x hx; simp at hx; rcases hx with rfl | rfl | rfl | rfl <;> simp
theorem leafOf_inj {i j : Nat} (hi : i < 4) (hj : j < 4) (h : i ≠ j) : leafOf i ≠ leafOf j := by
  have : ∀ i, i < 4 → ∀ j, j < 4 → i ≠ j → leafOf i ≠ leafOf j := by decide
  exact this i hi j hj h
noncomputable def goodOp (o : Str) : Bool := decide (1 ≤ o.cps.size) && o.cps.toList.all fun c => decide (97 ≤ c) && decide (c ≤ 122)
theorem GoodOp.of {o : Str} (h : goodOp o = true) : GoodOp o := by
  unfold goodOp at h
  simp only [Bool.and_eq_true, decide_eq_true_eq, List.all_eq_true] at h
  exact h
theorem leaf_good {i : Nat} (hi : i < 4) : GoodOp (leafOf i) := .of (by
  have : ∀ i, i < 4 → goodOp (leafOf i) = true := by decide
  exact this i hi)
theorem p_good {p : Str} (h : p = "f" ∨ p = "a" ∨ p = "b") : GoodOp p := .of (by rcases h with rfl | rfl | rfl <;> decide)
theorem q_good {p : Str} (h : p = "f" ∨ p = "g" ∨ p = "a") : GoodOp p := .of (by rcases h with rfl | rfl | rfl <;> decide)

/-- what the law's list of terms is -/
structure Terms (us : List T) (n s d : Nat) : Prop where
  nd : us.Nodup
  lo : 5 ≤ us.length
  hi : us.length ≤ n
  good : ∀ t, t ∈ us → GoodT t
  size : ∀ t, t ∈ us → t.size ≤ s
  deep : ∀ t, t ∈ us → t.deep ≤ d
theorem goodT_iff {t : T} (h : ∀ s, s ∈ t.rows → GoodOp s.1) : GoodT t := fun s hs => by
  rw [T.rows_subs] at h
  exact h _ (List.mem_map.mpr ⟨s, hs, rfl⟩)
theorem base_ok {ops : List (Str × Nat)} (h : OpsOk ops) : Terms (baseP ops) 24 4 4 := by
  obtain ⟨i, j, p, q, hi, hj, hij, hp, hq, rfl | rfl⟩ := h.is
  · rw [base1]
    have ga := leaf_good hi
    have gp := p_good hp
    have gq := q_good hq
    generalize leafOf i = a at ga ⊢
    refine ⟨by simp, by simp, by simp, ?_, ?_, ?_⟩
    · intro t ht
      refine goodT_iff ?_
      simp only [List.mem_cons, List.not_mem_nil, or_false] at ht
      rcases ht with rfl | rfl | rfl | rfl | rfl | rfl | rfl | rfl <;> simp [T.rows, ga, gp, gq]
    · simp [T.size]
    · simp [T.deep]
  · rw [base2]
    have ga := leaf_good hi
    have gb := leaf_good hj
    have gp := p_good hp
    have gq := q_good hq
    have hab := leafOf_inj hi hj hij
    generalize leafOf i = a at ga hab ⊢
    generalize leafOf j = b at gb hab ⊢
    refine ⟨by simp [hab, hab.symm], by simp, by simp, ?_, ?_, ?_⟩
    · intro t ht
      refine goodT_iff ?_
      simp only [List.mem_cons, List.not_mem_nil, or_false] at ht
      rcases ht with rfl | rfl | rfl | rfl | rfl | rfl | rfl | rfl | rfl | rfl | rfl | rfl | rfl | rfl | rfl | rfl | rfl | rfl | rfl | rfl | rfl | rfl | rfl | rfl <;> simp [T.rows, ga, gb, gp, gq]
    · simp [T.size]
    · simp [T.deep]
theorem ops_last {ops : List (Str × Nat)} (h : OpsOk ops) : ∃ q pre, ops = pre ++ [(q, 2)] ∧ pre.length ≤ 3 ∧ GoodOp q := by
  obtain ⟨i, j, p, q, hi, hj, hij, hp, hq, rfl | rfl⟩ := h.is
  · exact ⟨q, [_, _], rfl, by simp, q_good hq⟩
  · exact ⟨q, [_, _, _], rfl, by simp, q_good hq⟩

/-- as data -/
noncomputable def T.dat : T → Dat
  | .leaf o => .tuple [.str o]
  | .one o t => .tuple [.str o, t.dat]
  | .two o l r => .tuple [.str o, l.dat, r.dat]
theorem T.dat_inj : ∀ {s t : T}, s.dat = t.dat → s = t := by
  intro s
  induction s with
  | leaf o => intro t h; cases t <;> simp [T.dat] at h; rw [h]
  | one o s ih => intro t h; cases t <;> simp [T.dat] at h; rw [h.1, ih h.2]
  | two o l r ih jh => intro t h; cases t <;> simp [T.dat] at h; rw [h.1, ih h.2.1, jh h.2.2]
theorem GoodOp.strOk {o : Str} (h : GoodOp o) : PyData.strOk o = true := by
  unfold PyData.strOk
  rw [Array.all_eq_true_iff_forall_mem]
  intro c hc
  have := h.2 c (by simpa using hc)
  simp; omega
theorem T.dat_ok {t : T} (g : GoodT t) : ∀ {n : Nat}, t.deep ≤ n → kqdOk n t.dat = true := by
  induction t with
  | leaf o =>
    intro n hn
    obtain ⟨n, rfl⟩ : ∃ m, n = m + 1 := ⟨n - 1, by simp [T.deep] at hn; omega⟩
    have := g.op.strOk
    simp only [T.op] at this
    simp [T.dat, kqdOk, this]
  | one o t ih =>
    intro n hn
    obtain ⟨n, rfl⟩ : ∃ m, n = m + 1 := ⟨n - 1, by simp [T.deep] at hn; omega⟩
    have h1 := g.op.strOk
    simp only [T.op] at h1
    have h2 := ih (g.kid (by simp [T.kids])) (n := n) (by simp [T.deep] at hn; omega)
    simp [T.dat, kqdOk, h1, h2]
  | two o l r ih jh =>
    intro n hn
    obtain ⟨n, rfl⟩ : ∃ m, n = m + 1 := ⟨n - 1, by simp [T.deep] at hn; omega⟩
    have h1 := g.op.strOk
    simp only [T.op] at h1
    have h2 := ih (g.kid (by simp [T.kids])) (n := n) (by simp [T.deep] at hn; omega)
    have h3 := jh (g.kid (by simp [T.kids])) (n := n) (by simp [T.deep] at hn; omega)
    simp [T.dat, kqdOk, h1, h2, h3]
theorem TermAt.reads {h : Heap} {t : T} {v : Value} (x : TermAt h t v) : ∃ as, Reads h v (kqdP t.dat) as := by
  induction t generalizing v with
  | leaf o =>
    obtain ⟨a, u, rfl, m, p⟩ := x
    exact ⟨_, reads_tuple_at p rfl rfl (ReadsAll.cons (Reads.str o u) .nil)⟩
  | one o t ih =>
    obtain ⟨a, u, k, rfl, ⟨m, p⟩, q⟩ := x
    obtain ⟨as, r⟩ := ih q
    exact ⟨_, reads_tuple_at p rfl rfl (ReadsAll.cons (Reads.str o u) (.cons r .nil))⟩
  | two o l r ih jh =>
    obtain ⟨a, u, k, j, rfl, ⟨m, p⟩, q, q'⟩ := x
    obtain ⟨as, r⟩ := ih q
    obtain ⟨bs, r'⟩ := jh q'
    exact ⟨_, reads_tuple_at p rfl rfl (ReadsAll.cons (Reads.str o u) (.cons r (.cons r' .nil)))⟩
theorem terms_read {h : Heap} {us : List T} {vs : List Value} (x : All2 (TermAt h) us vs) : ∃ as, ReadsAll h vs (kqdPs (us.map T.dat)) as := by
  induction x with
  | nil => exact ⟨_, ReadsAll.nil⟩
  | cons h _ ih =>
    obtain ⟨as, r⟩ := h.reads
    obtain ⟨bs, r'⟩ := ih
    exact ⟨_, ReadsAll.cons r r'⟩
end Mine

end

section
open PySem PySem.W PySem.Calls PyProof.Rows
namespace Mine
section
variable {prog : Program} {w : World} {g : Shared} {hb : Heap} {A : Around} {h : Heap} {env : Env}

theorem o_notin_terms {a : Addr} {us : List T} {vs : List Value} {t : T} {v : Value} {q : Bool} {Q : Value → Heap → Prop} (l : LstAt h a vs) (au : All2 (TermAt h) us vs) (at' : TermAt h t v) (gu : ∀ u, u ∈ us → GoodT u ∧ u.deep ≤ 8) (gt : GoodT t) (dt : t.deep ≤ 8) (hu : A.units + 64 < cLine)
    (hq : q = true ↔ t ∉ us) (k : Q (.bool q) h) : W prog w g A (compareOp .NotIn v (.ref a)) Q h := by
  obtain ⟨as, ra⟩ := terms_read au
  obtain ⟨bs, rx⟩ := at'.reads
  obtain ⟨m, p⟩ := l
  have oks : ∀ d, d ∈ us.map T.dat → kqdOk 8 d = true := by
    intro d hd
    obtain ⟨u, hu, rfl⟩ := List.mem_map.mp hd
    exact T.dat_ok (gu u hu).1 (gu u hu).2
  have okt := T.dat_ok gt dt
  have ly := kqd_layL oks
  have ld := kqd_lay 8 t.dat okt
  have e : (!(kqdPs (us.map T.dat)).any fun y => PyData.eqv y (kqdP t.dat)) = q := by
    have h1 := kqd_any (us.map T.dat) t.dat oks okt
    have h2 : t.dat ∈ us.map T.dat ↔ t ∈ us := ⟨fun h => by obtain ⟨u, hu, e⟩ := List.mem_map.mp h; exact T.dat_inj e ▸ hu, fun h => List.mem_map_of_mem h⟩
    rw [h2] at h1
    cases q with
    | true => rw [Bool.not_eq_true']; exact Bool.eq_false_iff.mpr fun z => (hq.mp rfl) (h1.mp z)
    | false => rw [Bool.not_eq_false']; exact h1.mpr (Classical.byContradiction fun z => Bool.false_ne_true (hq.mpr z))
  refine ⟨fun n => SeqAt.notIn_list_reads (s := sh g h n) (reads_list_at p rfl rfl ra) rx ly.1 ld.1 ?_ (by rw [e]; exact .mk k)⟩
  have := Nat.min_le_right (PyData.depthAll (kqdPs (us.map T.dat))) (kqdP t.dat).depth
  have := ld.2
  omega

noncomputable def szq : Nat → Nat
  | 0 => 4
  | q + 1 => 1 + (szq q + szq q)
theorem terms_ok {f l : Addr} {i : Nat} {Q : Value → Heap → Prop} (B : Base w hb) (S : St hb h) (R : Rm A 3) (hf : FeedAt prog w h f l i) (hbf : hb.get? f = none) (hi : i ≤ 800)
    (k : ∀ h₁ a us vs i', Ext (· = f) h h₁ → FeedAt prog w h₁ f l i' → i' ≤ i + 20 → h.get? a = none → LstAt h₁ a vs → All2 (TermAt h₁) us vs → Terms us 27 39 7 → Q (.ref a) h₁) : W prog w g A (call (.ref 230) [.ref f]) Q h := by
  refine call_def (k := 2) [("feed", .ref f)] B S R rfl rfl rfl rfl (by decide) rfl rfl rfl fun h₁ L e₁ S₁ R₁ hL hn₁ => ?_
  obtain ⟨fL, lL⟩ := hf.ne hL
  have hf₁ := hf.to e₁
  have fb : ∀ {h'}, Ext (· = f) h h' → St hb h' := fun e => S.to e (by rintro a rfl; exact hbf)
  -- ops
  refine W.hideL ?_
  intro K
  refine x_cons ?_
  refine W.hideL ?_
  intro K
  refine x_assign <| c_glob B S₁ n_ops <| i_cons <| e_local hn₁ rfl <| i_nil ⟨S₁, ops_ok B S₁ (R₁.mono (by omega)) hf₁ hbf (by omega) fun h₂ oa ops ov e₂ f₂ noa loa aoa okk => st_local (ns_to hn₁ e₂ fL.symm) fun h₃ e₃ n₃ => ?_⟩
  have oaL : oa ≠ L := (ne_new (ns_some hn₁) noa).symm
  have E₃ : Ext (· = f) h h₃ := (e₁.of.trans e₂).trans' e₃ (by rintro a rfl; exact .inr hL)
  have f₃ := f₂.to e₃ fL lL
  have loa₃ := loa.to e₃ oaL
  have aoa₃ : All2 (OpAt h₃) ops ov := aoa.imp fun _ _ q => q.tk e₃.tup
  have oaf : oa ≠ f := (ne_new (dict_some hf₁.dict.choose_spec) noa).symm
  have hol : ops.length ≤ 4 := by
    obtain ⟨q, pre, e, hp, _⟩ := ops_last okk
    rw [e]; simp; omega
  -- lots
  refine W.hideL ?_
  intro K
  refine x_cons ?_
  refine W.hideL ?_
  intro K
  refine x_assign <| c_glob B (fb E₃) n_all <| i_cons <| e_local n₃ rfl <| i_cons <| e_int fun _ => i_nil ⟨fb E₃, all_ok B (fb E₃) (R₁.mono (by omega)) loa₃ aoa₃ (by omega) (ops_two okk) (lots_small okk) fun h₄ la lv e₄ nla lla ala => st_local (ns_to n₃ e₄) fun h₅ e₅ n₅ => ?_⟩
  have E₄ : Ext (· = f) h h₄ := E₃.trans e₄.of
  have laL : la ≠ L := fun q => ns_nolist (ns_to n₃ e₄) lv (by have q : la = L := q; rw [← q]; exact lla)
  have E₅ : Ext (· = f) h h₅ := E₄.trans' e₅ (by rintro a rfl; exact .inr hL)
  have f₄ := f₃.to e₄
  have f₅ := f₄.to e₅ fL lL
  have S₅ := fb E₅
  have lla₅ := lla.to e₅ laL
  have hlv : lv.length = 5 := by rw [← ala.length, lotsP_len]
  have lotq : ∀ q, q < 5 → ∃ a tv, lv[q]? = some (.ref a) ∧ LstAt h₅ a tv ∧ All2 (TermAt h₅) ((lotsP ops 4).getD q []) tv ∧ tv.length ≤ 50 := fun q hq => by
    have hq' : q < (lotsP ops 4).length := by rw [lotsP_len]; exact hq
    obtain ⟨_, hv, a, tv, rfl, _, l', at'⟩ := ala.get' (List.getElem?_eq_getElem hq')
    have aL : a ≠ L := fun q => ns_nolist (ns_to n₃ e₄) tv (by have q : a = L := q; rw [← q]; exact l')
    have hg : (lotsP ops 4).getD q [] = (lotsP ops 4)[q] := by unfold List.getD; rw [List.getElem?_eq_getElem hq']; rfl
    refine ⟨a, tv, hv, l'.to e₅ aL, by rw [hg]; exact terms_to at' e₅, ?_⟩
    rw [← at'.length]
    exact lots_small okk 4 (by omega) _ (List.getElem_mem hq')
  obtain ⟨b1, t1, v1, l1, a1, z1⟩ := lotq 1 (by omega)
  obtain ⟨b2, t2, v2, l2, a2, z2⟩ := lotq 2 (by omega)
  obtain ⟨b3, t3, v3, l3, a3, z3⟩ := lotq 3 (by omega)
  obtain ⟨b4, t4, v4, l4, a4, z4⟩ := lotq 4 (by omega)
  -- some = lots[1] + lots[2] + lots[3] + lots[4]
  refine W.hideL ?_
  intro K
  refine x_cons ?_
  refine W.hideL ?_
  intro K
  refine x_assign <| e_bin <| e_bin <| e_bin <| e_sub <| e_local n₅ rfl <| e_int fun _ => t_list (.ref b1) lla₅ (by decide) (by decide) v1 <| e_sub <| e_local n₅ rfl <| e_int fun _ => t_list (.ref b2) lla₅ (by decide) (by decide) v2 <| o_add_lst l1 l2 (by omega) fun h₆ s1 e₆ _ ls1 => ?_
  refine e_sub <| e_local (ns_to n₅ e₆) rfl <| e_int fun _ => t_list (.ref b3) (lla₅.to e₆) (by decide) (by decide) v3 <| o_add_lst ls1 (l3.to e₆) (by simp; omega) fun h₇ s2 e₇ _ ls2 => ?_
  have e57 := e₆.trans e₇
  refine e_sub <| e_local (ns_to n₅ e57) rfl <| e_int fun _ => t_list (.ref b4) (lla₅.to e57) (by decide) (by decide) v4 <| o_add_lst ls2 (l4.to e57) (by simp; omega) fun h₈ sm e₈ nsm lsm => st_local (ns_to (ns_to n₅ e57) e₈) fun h₉ e₉ n₉ => ?_
  have e58 := e57.trans e₈
  have smL : sm ≠ L := (ne_new (ns_some (ns_to n₅ e57)) nsm).symm
  have f₈ := f₅.to e58
  have smf : sm ≠ f := (ne_new (dict_some (f₅.to e57).dict.choose_spec) nsm).symm
  have sml : sm ≠ l := by
    obtain ⟨_, q, _⟩ := (f₅.to e57).list
    exact (ne_new q.some nsm).symm
  have E₈ := E₅.trans e58.of
  have sm0 : h.get? sm = none := (E₅.trans e57.of).new nsm
  have E₉ : Ext (· = f) h h₉ := E₈.trans' e₉ (by rintro a rfl; exact .inr hL)
  have lsm₉ := lsm.to e₉ smL
  have f₉ := f₈.to e₉ fL lL
  have abase : All2 (TermAt h₉) (baseP ops) (((t1 ++ t2) ++ t3) ++ t4) := by
    have tk : ∀ {us vs}, All2 (TermAt h₅) us vs → All2 (TermAt h₉) us vs := fun x => terms_to (terms_to x e58) e₉
    exact (((tk a1).append (tk a2)).append (tk a3)).append (tk a4)
  have loa₉ : LstAt h₉ oa ov := (((loa₃.to e₄).to e₅ oaL).to e58).to e₉ oaL
  have aoa₉ : All2 (OpAt h₉) ops ov := aoa₃.imp fun _ _ q => (((q.tk e₄.tup).tk e₅.tup).tk e58.tup).tk e₉.tup
  have smoa : sm ≠ oa := (ne_new (((loa₃.to e₄).to e₅ oaL).to e57).some nsm).symm
  obtain ⟨qop, pre, hops, hpre, gq⟩ := ops_last okk
  have lastop : ∃ pa uq tq, ov[ov.length - 1]? = some (.ref pa) ∧ TupAt h₉ pa [.str qop uq, .int 2 tq] ∧ 1 ≤ ov.length ∧ ov.length ≤ 4 := by
    have hl := aoa₉.length
    have hx : ops[ops.length - 1]? = some (qop, 2) := by rw [hops]; simp
    obtain ⟨_, hv, pa, uq, tq, rfl, tp⟩ := aoa₉.get' hx
    have h1 : 1 ≤ ops.length := by rw [hops]; simp
    exact ⟨pa, uq, tq, by rw [← hl]; exact hv, tp, by omega, by omega⟩
  obtain ⟨pa, uq, tq, hlast, tpa, ho1, ho4⟩ := lastop
  -- for lap in range(_law_draw(feed, 4))
  refine W.hideL ?_
  intro K
  refine x_cons ?_
  refine W.hideL ?_
  intro K
  refine x_forK <| c_bi B (fb E₉) n_range <| i_cons <| e_draw B (fb E₉) (R₁.mono (by omega)) n₉ rfl f₉ hbf (by omega) (by decide) (by decide) fun h₁₀ r td e₁₀ f₁₀ r0 r1 => i_nil ⟨fb (E₉.trans e₁₀), c_range1 fun h₁₁ rg e₁₁ hr => src_range R₁.hh hr (by decide) (by omega) fun h₁₂ it Sr e₁₂ X s0 => ?_⟩
  obtain ⟨laps, rfl⟩ : ∃ laps : Nat, r = laps := ⟨r.toNat, by omega⟩
  rw [show ((laps : Int) - 0).toNat = laps by omega] at X
  have hlaps : laps ≤ 3 := by omega
  have e911 : Ext (· = f) h₉ h₁₁ := e₁₀.trans e₁₁.of
  have n₁₁ := ns_to n₉ e911 fL.symm
  have f₁₁ := f₁₀.to e₁₁
  have lsm₁₁ := lsm₉.to e911 smf
  have loa₁₁ := loa₉.to e911 oaf
  have itL : it ≠ L := (ne_new (ns_some n₁₁) X.new).symm
  have itf : it ≠ f := (ne_new (dict_some f₁₁.dict.choose_spec) X.new).symm
  have itl : it ≠ l := by
    obtain ⟨_, q, _⟩ := f₁₁.list
    exact (ne_new q.some X.new).symm
  have itsm : it ≠ sm := (ne_new lsm₁₁.some X.new).symm
  have itoa : it ≠ oa := (ne_new loa₁₁.some X.new).symm
  have E₁₁ : Ext (· = f) h h₁₁ := E₉.trans e911
  have it0 : h.get? it = none := E₁₁.new X.new
  have lsm' : sm ≠ l := sml
  refine ⟨it, _, _, Sr, _, rfl, X, s0, e₁₂, fun q h' => ∃ m us vs i', Ext (· = f) h h' ∧ Tk h₉ h' ∧ h'.Ns L m ∧ m "feed" = some (.ref f) ∧ m "ops" = some (.ref oa) ∧ m "some" = some (.ref sm) ∧ FeedAt prog w h' f l i' ∧ i' ≤ i + 6 + 2 * q ∧ LstAt h' sm vs ∧ LstAt h' oa ov ∧
    All2 (TermAt h') us vs ∧ Terms us (24 + q) (szq q) (4 + q), ⟨_, baseP ops, _, i + 6, E₁₁.trans e₁₂.of, (e911.trans e₁₂.of).tup, ns_to n₁₁ e₁₂, rfl, rfl, rfl, f₁₁.to e₁₂, by omega, lsm₁₁.to e₁₂, loa₁₁.to e₁₂, terms_to (terms_to abase e911) e₁₂, base_ok okk⟩, ?_, ?_, ?_⟩
  · rintro q h' h'' ⟨m, us, vs, i', E, tk, ns, mf, mo, ms, ff, hi', ls, lo, au, tt⟩ bt tkk nl
    refine ⟨m, us, vs, i', E.fins bt (by rintro b rfl; exact it0), tk.trans tkk, ns_but ns bt itL.symm, mf, mo, ms, ?_, hi', ls.but bt itsm.symm, lo.but bt itoa.symm, terms_tk au tkk, tt⟩
    obtain ⟨⟨tk', d⟩, vl, ll, r⟩ := ff
    exact ⟨⟨tk', d.at fun _ q => bt _ _ itf.symm q⟩, vl, ll.but bt itl.symm, r⟩
  · rintro q v h₁₃ hq ⟨tv, rfl⟩ ⟨m, us, vs, i', E, tk, ns, mf, mo, ms, ff, hi', ls, lo, au, tt⟩ nlit livit
    have hq3 : q ≤ 2 := by omega
    have hvl := au.length
    have hlo := tt.lo
    have hhi := tt.hi
    refine asg_local ns fun h₁₄ e₁₄ n₁₄ => ?_
    have E₁₄ : Ext (· = f) h h₁₄ := E.trans' e₁₄ (by rintro a rfl; exact .inr hL)
    have f₁₄ := ff.to e₁₄ fL lL
    have ls₁₄ := ls.to e₁₄ smL
    have lo₁₄ := lo.to e₁₄ oaL
    have au₁₄ := terms_to au e₁₄
    have tp₁₄ := (tpa.tk tk).to e₁₄
    -- late
    refine W.hideL ?_
    intro K
    refine x_cons ?_
    refine W.hideL ?_
    intro K
    refine x_assign <| e_tup <| i_cons <| e_sub <| e_sub <| e_local n₁₄ mo <| e_unary <| e_int fun _ => o_neg fun _ => t_list_neg (.ref pa) lo₁₄ (by decide) (by omega) (by decide) (by rw [show ((-1 : Int) + (ov.length : Int)).toNat = ov.length - 1 by omega]; exact hlast) <| e_int fun _ => t_tup (.str qop uq) tp₁₄ (by decide) (by decide) rfl ?_
    refine i_cons <| e_sub <| e_local n₁₄ ms <| c_glob B (fb E₁₄) n_draw <| i_cons <| e_local n₁₄ mf <| i_cons <| c_bi B (fb E₁₄) n_len <| i_cons <| e_local n₁₄ ms <| i_nil ⟨fb E₁₄, c_len_list ls₁₄ (by omega) fun _ => i_nil ⟨fb E₁₄, draw_ok B (fb E₁₄) (R₁.mono (by omega)) f₁₄ hbf (by omega) (by omega) (by omega) fun h₁₅ ra ta e₁₅ f₁₅ ra0 ra1 => ?_⟩⟩
    obtain ⟨ia, rfl⟩ : ∃ ia : Nat, ra = ia := ⟨ra.toNat, by omega⟩
    have hia : ia < vs.length := by omega
    obtain ⟨ta', va, hta, hva, ata⟩ := au₁₄.at hia
    refine t_list va (ls₁₄.to e₁₅ smf) (by omega) (by omega) (by simpa using hva) ?_
    have E₁₅ := E₁₄.trans e₁₅
    have n₁₅ := ns_to n₁₄ e₁₅ fL.symm
    refine i_cons <| e_sub <| e_local n₁₅ ms <| e_bin <| e_unary <| e_int fun _ => o_neg fun _ => e_draw B (fb E₁₅) (R₁.mono (by omega)) n₁₅ mf f₁₅ hbf (by omega) (by decide) (by decide) fun h₁₆ rb tb e₁₆ f₁₆ rb0 rb1 => o_sub fun _ => ?_
    obtain ⟨ib, rfl⟩ : ∃ ib : Nat, rb = ib := ⟨rb.toNat, by omega⟩
    have hib : vs.length - 1 - ib < vs.length := by omega
    obtain ⟨tb', vb, htb, hvb, atb⟩ := au₁₄.at hib
    refine t_list_neg vb ((ls₁₄.to e₁₅ smf).to e₁₆ smf) (by omega) (by omega) (by omega) (by rw [show ((-1 : Int) - (ib : Int) + (vs.length : Int)).toNat = vs.length - 1 - ib by omega]; exact hvb) <| i_nil ⟨Nat.le_of_ble_eq_true rfl, fun h₁₇ lt e₁₇ _ tlt => st_local (ns_to (ns_to n₁₅ e₁₆ fL.symm) e₁₇) fun h₁₈ e₁₈ n₁₈ => ?_⟩
    have e1417 : Ext (· = f) h₁₄ h₁₇ := (e₁₅.trans e₁₆).trans e₁₇.of
    have E₁₇ := E₁₄.trans e1417
    have E₁₈ : Ext (· = f) h h₁₈ := E₁₇.trans' e₁₈ (by rintro a rfl; exact .inr hL)
    have ls₁₈ := (ls₁₄.to e1417 smf).to e₁₈ smL
    have au₁₈ := terms_to (terms_to au₁₄ e1417) e₁₈
    have f₁₈ := (f₁₆.to e₁₇).to e₁₈ fL lL
    have late : TermAt h₁₈ (.two qop ta' tb') (.ref lt) := ⟨lt, uq, va, vb, rfl, tlt.to e₁₈, (ata.to e1417).to e₁₈, (atb.to e1417).to e₁₈⟩
    have hma : ta' ∈ us := List.mem_of_getElem? hta
    have hmb : tb' ∈ us := List.mem_of_getElem? htb
    have gl : GoodT (.two qop ta' tb') := fun s hs => by
      simp only [T.subs, List.mem_cons, List.mem_append] at hs
      rcases hs with rfl | hs | hs
      · exact gq
      · exact tt.good _ hma s hs
      · exact tt.good _ hmb s hs
    have dl : (T.two qop ta' tb').deep ≤ 4 + (q + 1) := by
      have := tt.deep _ hma
      have := tt.deep _ hmb
      simp only [T.deep]; omega
    have zl : (T.two qop ta' tb').size ≤ szq (q + 1) := by
      have := tt.size _ hma
      have := tt.size _ hmb
      simp only [T.size, szq]; omega
    have szm : szq q ≤ szq (q + 1) := by simp only [szq]; omega
    have tk₁₈ : Tk h₉ h₁₈ := ((tk.trans e₁₄.tup).trans e1417.tup).trans e₁₈.tup
    have e1318 : Ext (fun a => a = L ∨ a = f) h₁₃ h₁₈ := (e₁₄.mono fun _ => .inl).trans ((e1417.mono fun _ => .inr).trans (e₁₈.mono fun _ => .inl))
    have lo₁₈ := lo.to e1318 fun q => q.elim oaL oaf
    have uu : ∀ {e : Env}, (A.deeper e).units + 64 < cLine := fun {e} => by have := R.units; show A.units + 3 + 64 < _; omega
    by_cases hin : (T.two qop ta' tb') ∈ us
    · refine W.hideL ?_
      intro K
      refine x_cons ?_
      refine W.hideL ?_
      intro K
      refine x_if <| b_cmp <| e_local n₁₈ rfl <| e_local n₁₈ ms <| o_notin_terms ls₁₈ au₁₈ late (fun u hu => ⟨tt.good u hu, by have := tt.deep u hu; omega⟩) gl (by omega) uu (q := false) (by simp [hin]) ⟨false, rfl, ?_⟩
      rw [if_neg (by decide)]
      refine x_nil <| x_nil ⟨⟨_, e1318, fun q => q.elim itL itf, fun b q => q.elim⟩, _, us, vs, i' + 2, E₁₈, tk₁₈, n₁₈, mf, mo, ms, f₁₈, by omega, ls₁₈, lo₁₈, au₁₈, ⟨tt.nd, tt.lo, by omega, tt.good, fun t ht => Nat.le_trans (tt.size t ht) szm, fun t ht => Nat.le_succ_of_le (tt.deep t ht)⟩⟩
    · refine W.hideL ?_
      intro K
      refine x_cons ?_
      refine W.hideL ?_
      intro K
      refine x_if <| b_cmp <| e_local n₁₈ rfl <| e_local n₁₈ ms <| o_notin_terms ls₁₈ au₁₈ late (fun u hu => ⟨tt.good u hu, by have := tt.deep u hu; omega⟩) gl (by omega) uu (q := true) (by simp [hin]) ⟨true, rfl, ?_⟩
      rw [if_pos rfl]
      refine W.hideL ?_
      intro K
      refine x_cons ?_
      refine W.hideL ?_
      intro K
      refine x_expr <| m_list F.slot_list_append F.type_list_append <| e_local n₁₈ ms ⟨sm, _, rfl, ls₁₈, i_cons <| e_local n₁₈ rfl <| i_nil <| c_append ls₁₈ (by omega) fun h₁₉ e₁₉ ls₁₉ => ⟨rfl, x_nil <| x_nil ?_⟩⟩
      refine ⟨⟨fun a => (a = L ∨ a = f) ∨ a = sm, (e1318.mono fun _ => .inl).trans (e₁₉.mono fun _ => .inr), ?_, fun b q => q.elim⟩, _, us ++ [.two qop ta' tb'], _, i' + 2, E₁₈.trans' e₁₉ (by rintro a rfl; exact .inr sm0), tk₁₈.trans e₁₉.tup, ns_to n₁₈ e₁₉ smL.symm, mf, mo, ms, f₁₈.to e₁₉ smf.symm sml.symm, by omega, ls₁₉, lo₁₈.to e₁₉ smoa.symm, (terms_to au₁₈ e₁₉).snoc (late.to e₁₉), ?_⟩
      · rintro ((q | q) | q)
        · exact itL q
        · exact itf q
        · exact itsm q
      · have key : ∀ {P : T → Prop}, (∀ t, t ∈ us → P t) → P (.two qop ta' tb') → ∀ t, t ∈ us ++ [.two qop ta' tb'] → P t := fun h1 h2 t ht => by
          rcases List.mem_append.mp ht with ht | ht
          · exact h1 t ht
          · rw [List.mem_singleton] at ht; exact ht ▸ h2
        refine ⟨?_, by rw [List.length_append]; exact Nat.le_trans tt.lo (Nat.le_add_right _ _), by rw [List.length_append]; simp only [List.length_cons, List.length_nil]; omega, key tt.good gl, key (fun t ht => Nat.le_trans (tt.size t ht) szm) zl, key (fun t ht => Nat.le_succ_of_le (tt.deep t ht)) dl⟩
        rw [List.nodup_append]
        refine ⟨tt.nd, by simp, fun a ha b hb => ?_⟩
        rw [List.mem_singleton] at hb
        rintro rfl
        exact hin (hb ▸ ha)
  rintro h₁₃ ⟨m, us, vs, i', E, tk, ns, mf, mo, ms, ff, hi', ls, lo, au, tt⟩
  have hvl := au.length
  have hlo := tt.lo
  have hhi := tt.hi
  -- cut
  refine W.hideL ?_
  intro K
  refine x_cons ?_
  refine W.hideL ?_
  intro K
  refine x_assign <| c_glob B (fb E) n_draw <| i_cons <| e_local ns mf <| i_cons <| c_bi B (fb E) n_len <| i_cons <| e_local ns ms <| i_nil ⟨fb E, c_len_list ls (by omega) fun _ => i_nil ⟨fb E, draw_ok B (fb E) (R₁.mono (by omega)) ff hbf (by omega) (by omega) (by omega) fun h₁₄ rc tc e₁₄ f₁₄ rc0 rc1 => st_local (ns_to ns e₁₄ fL.symm) fun h₁₅ e₁₅ n₁₅ => ?_⟩⟩
  obtain ⟨c, rfl⟩ : ∃ c : Nat, rc = c := ⟨rc.toNat, by omega⟩
  have ls₁₅ := (ls.to e₁₄ smf).to e₁₅ smL
  have E₁₅ : Ext (· = f) h h₁₅ := (E.trans e₁₄).trans' e₁₅ (by rintro a rfl; exact .inr hL)
  refine W.hideL ?_
  intro K
  refine x_cons ?_
  refine W.hideL ?_
  intro K
  refine x_ret <| e_bin <| e_sub <| e_local n₁₅ ms <| e_slice <| p_some <| e_local n₁₅ rfl <| p_none <| p_none fun h₁₆ sl e₁₆ _ hsl => t_list_from (ls₁₅.to e₁₆) hsl (by omega) fun h₁₇ x1 e₁₇ _ lx1 => ?_
  have e1517 := e₁₆.trans e₁₇
  refine e_sub <| e_local (ns_to n₁₅ e1517) ms <| e_slice <| p_none <| p_some <| e_local (ns_to n₁₅ e1517) rfl <| p_none fun h₁₈ sl2 e₁₈ _ hsl2 => t_list_upto ((ls₁₅.to e1517).to e₁₈) hsl2 (by omega) fun h₁₉ x2 e₁₉ _ lx2 => o_add_lst ((lx1.to e₁₈).to e₁₉) lx2 (by simp; omega) fun h₂₀ x3 e₂₀ nx3 lx3 => ?_
  have e1520 := ((e1517.trans e₁₈).trans e₁₉).trans e₂₀
  have au₂₀ := terms_to (terms_to (terms_to au e₁₄) e₁₅) e1520
  have x30 : h.get? x3 = none := (E₁₅.trans (((e1517.trans e₁₈).trans e₁₉).of)).new nx3
  have hperm : (us.drop c ++ us.take c).Perm us := by
    have := List.perm_append_comm (l₁ := us.drop c) (l₂ := us.take c)
    rwa [List.take_append_drop] at this
  refine k h₂₀ x3 (us.drop c ++ us.take c) _ (i' + 1) (E₁₅.trans e1520.of) ((f₁₄.to e₁₅ fL lL).to e1520) (by omega) x30 lx3 ((au₂₀.drop c).append (au₂₀.take c)) ⟨hperm.nodup_iff.mpr tt.nd, by rw [hperm.length_eq]; exact tt.lo, by rw [hperm.length_eq]; omega, fun t ht => tt.good t (hperm.mem_iff.mp ht), fun t ht => ?_, fun t ht => ?_⟩
  · have := tt.size t (hperm.mem_iff.mp ht)
    have : szq laps ≤ 39 := by
      rcases laps with _ | _ | _ | _ | n
      · decide
      · decide
      · decide
      · decide
      · omega
    omega
  · have := tt.deep t (hperm.mem_iff.mp ht); omega
end
end Mine

end

section
open PySem PySem.W PySem.Calls PyProof.Rows
namespace Mine

noncomputable def LtAt (A : Around) (s : Shared) (y x : Value) (b : Bool) : Prop := ∀ (prog : Program) (w : World) (E : Value → Shared → Prop) (Q : Value → Shared → Prop), Q (.bool b) s → wpAny (model prog w) A (richCompare .Lt y x) Q E s
noncomputable def lexLt : List (Bool × Bool) → Bool → Bool
  | [], f => f
  | (e, l) :: r, f => if e = true then lexLt r f else l
noncomputable def PairAt (A : Around) (s : Shared) (p : Value × Value) (e : Bool × Bool) : Prop := SeqAt.EqAt A s p.1 p.2 e.1 ∧ (e.1 = false → LtAt A s p.1 p.2 e.2)

theorem tup_ltAt (l b : Addr) (items items2 : Array Value) (n n2 : Nat) (els : List (Bool × Bool)) :
    Meets (Builtin.«tuple.__lt__» ⟨[.ref l, .ref b], []⟩)
      (fun A R s => s.heap.get? l = some { cls := .type "tuple", dict := none, data := .seq items n, slots := #[] } ∧ s.heap.get? b = some { cls := .type "tuple", dict := none, data := .seq items2 n2, slots := #[] } ∧
        All2 (PairAt A.in1 s) (items.toList.zip items2.toList) els ∧ R (.ok (.ret (.bool (lexLt els (decide (items.size < items2.size)))))) s) :=
  .of_wp fun prog w A R s h => by
    obtain ⟨hp, g, d, tk, os⟩ := s
    obtain ⟨hl, hb, he, h⟩ := h
    have f2 := AutoSeq1.sub_tuple_tuple
    wp_walk using AutoSeq1.wpAny_loadPart' hl, AutoSeq1.wpAny_loadPart' hb, wpAny_forIn_list _ (fun rest b s' => b.1 = none ∧ s' = ⟨hp, g, d, tk, os⟩ ∧ ∃ es, All2 (PairAt A.in1 ⟨hp, g, d, tk, os⟩) rest es ∧
      R (.ok (.ret (.bool (lexLt es (decide (items.size < items2.size)))))) ⟨hp, g, d, tk, os⟩) _
    case turn =>
      rintro ⟨y, x⟩ rest b s' ⟨hb', rfl, es, ha, hR⟩
      cases ha with
      | cons q r =>
        rename_i e es
        obtain ⟨e, l⟩ := e
        obtain ⟨q1, q2⟩ := q
        refine wpAny_bind (q1 prog w _ _ ?_)
        cases e with
        | true =>
          rw [lexLt, if_pos rfl] at hR
          wp_walk
          exact ⟨rfl, rfl, es, r, hR⟩
        | false =>
          rw [lexLt, if_neg (by decide)] at hR
          have q3 : ∀ (E : Value → Shared → Prop) (Q : Value → Shared → Prop), Q (.bool l) ⟨hp, g, d, tk, os⟩ → wpAny (model prog w) A.in1 (richCompare CmpOp.Lt y x) Q E ⟨hp, g, d, tk, os⟩ := q2 rfl prog w
          dsimp only
          generalize richCompare CmpOp.Lt y x = rc at q3 ⊢
          wp_walk
          refine q3 _ _ ?_
          wp_walk
          exact ⟨_, rfl, hR⟩
    case fin =>
      rintro ⟨b1, b2⟩ s' ⟨hb', rfl, es, ha, hR⟩
      simp only at hb'
      subst hb'
      cases ha
      wp_walk
      exact ⟨_, rfl, by simpa [Builtin.Tuple.tupleCompareSizes, lexLt] using hR⟩
    case h => exact ⟨rfl, rfl, els, he, h⟩

theorem tup_lt {A : Around} {s : Shared} {a b : Addr} {vs ws : List Value} {els : List (Bool × Bool)} (ta : TupAt s.heap a vs) (tb : TupAt s.heap b ws) (hu : A.units < cLine) (he : All2 (PairAt A.in1 s) (vs.zip ws) els) :
    LtAt A s (.ref a) (.ref b) (lexLt els (decide (vs.length < ws.length))) := fun prog w E Q h => by
  obtain ⟨n, p⟩ := ta
  obtain ⟨m, q⟩ := tb
  exact richCompare_meets_room (op := .Lt) ⟨_, p, rfl⟩ ⟨_, q, rfl⟩ F.slot_tuple_lt F.entry_tuple_lt (F.args_tuple_lt_2 _ _) (tup_ltAt a b _ _ n m els) ⟨p, q, he, show Value.bool _ ≠ Value.notImplemented ∧ Q _ s from ⟨(fun x => nomatch x), by simpa using h⟩⟩ hu
end Mine

end

section
open PySem PySem.W PySem.Calls PyProof.Rows
namespace Mine

section
variable (c : Nat → Nat → Bool) (n : Nat)
/-- every way of the sort asks within bounds and ends in P -/
noncomputable def kok {α : Type} : KasT α → (α → Prop) → Prop
  | .ret a, P => P a
  | .ask i j k, P => i < n ∧ j < n ∧ kok (k (c i j)) P
variable {c n}
theorem kok_mono {α : Type} {P Q : α → Prop} (h : ∀ a, P a → Q a) : ∀ {t : KasT α}, kok c n t P → kok c n t Q
  | .ret a, x => h a x
  | .ask i j k, x => ⟨x.1, x.2.1, kok_mono h x.2.2⟩
theorem kok_bind {α β : Type} {f : α → KasT β} {P : β → Prop} : ∀ {t : KasT α}, kok c n t (fun a => kok c n (f a) P) → kok c n (t.bind f) P
  | .ret a, x => x
  | .ask i j k, x => ⟨x.1, x.2.1, kok_bind x.2.2⟩

/-- a strict order of the numbers below n -/
structure Ord (c : Nat → Nat → Bool) (n : Nat) : Prop where
  trans : ∀ i j k, i < n → j < n → k < n → c i j = true → c j k = true → c i k = true
  tot : ∀ i j, i < n → j < n → i ≠ j → c i j = true ∨ c j i = true
  asym : ∀ i j, i < n → j < n → c i j = true → c j i = false
structure PN (n : Nat) (p : Array Nat) : Prop where
  size : p.size = n
  perm : p.toList.Perm (List.range n)
theorem PN.lt {p : Array Nat} (x : PN n p) {i : Nat} (hi : i < n) : p.getD i 0 < n := by
  have hs : i < p.size := by rw [x.size]; exact hi
  have e : p.getD i 0 = p[i] := by simp [Array.getD, hs]
  rw [e]
  have : p[i] ∈ p.toList := by simp
  exact List.mem_range.mp (x.perm.mem_iff.mp this)
theorem PN.ne {p : Array Nat} (x : PN n p) {i j : Nat} (hi : i < n) (hj : j < n) (h : i ≠ j) : p.getD i 0 ≠ p.getD j 0 := by
  have hs : i < p.size := by rw [x.size]; exact hi
  have ht : j < p.size := by rw [x.size]; exact hj
  have e : p.getD i 0 = p.toList[i]'(by simpa using hs) := by simp [Array.getD, hs]
  have e' : p.getD j 0 = p.toList[j]'(by simpa using ht) := by simp [Array.getD, ht]
  rw [e, e']
  intro q
  exact h ((List.getElem_inj (x.perm.nodup_iff.mpr List.nodup_range)).mp q)
noncomputable def Asc (c : Nat → Nat → Bool) (p : Array Nat) (m : Nat) : Prop := ∀ i j, i < j → j < m → c (p.getD i 0) (p.getD j 0) = true
noncomputable def Dsc (c : Nat → Nat → Bool) (p : Array Nat) (m : Nat) : Prop := ∀ i j, i < j → j < m → c (p.getD j 0) (p.getD i 0) = true
theorem Asc.succ {p : Array Nat} {m : Nat} (O : Ord c n) (x : PN n p) (a : Asc c p m) (hm : m < n) (h1 : 1 ≤ m) (h : c (p.getD m 0) (p.getD (m - 1) 0) = false) : Asc c p (m + 1) := by
  have hl : c (p.getD (m - 1) 0) (p.getD m 0) = true := by
    rcases O.tot _ _ (x.lt (i := m - 1) (by omega)) (x.lt hm) (x.ne (by omega) hm (by omega)) with q | q
    · exact q
    · rw [h] at q; cases q
  intro i j hij hj
  by_cases hjm : j < m
  · exact a i j hij hjm
  · have : j = m := by omega
    subst this
    by_cases hi : i = j - 1
    · subst hi; exact hl
    · exact O.trans _ _ _ (x.lt (by omega)) (x.lt (by omega)) (x.lt hm) (a i (j - 1) (by omega) (by omega)) hl
theorem Dsc.succ {p : Array Nat} {m : Nat} (O : Ord c n) (x : PN n p) (a : Dsc c p m) (hm : m < n) (h1 : 1 ≤ m) (hl : c (p.getD m 0) (p.getD (m - 1) 0) = true) : Dsc c p (m + 1) := by
  intro i j hij hj
  by_cases hjm : j < m
  · exact a i j hij hjm
  · have : j = m := by omega
    subst this
    by_cases hi : i = j - 1
    · subst hi; exact hl
    · exact O.trans _ _ _ (x.lt hm) (x.lt (by omega)) (x.lt (by omega)) hl (a i (j - 1) (by omega) (by omega))
theorem asc_ok {p : Array Nat} (O : Ord c n) (x : PN n p) : ∀ (f m : Nat), 1 ≤ m → m + f ≤ n → Asc c p m → kok c n (kas_asc p f m) (fun r => m ≤ r ∧ r ≤ m + f ∧ Asc c p r ∧ (r = m + f ∨ c (p.getD r 0) (p.getD (r - 1) 0) = true))
  | 0, m, h1, hf, a => ⟨Nat.le_refl _, Nat.le_refl _, a, .inl rfl⟩
  | f + 1, m, h1, hf, a => by
    refine ⟨x.lt (by omega), x.lt (by omega), ?_⟩
    cases q : c (p.getD m 0) (p.getD (m - 1) 0) with
    | true => dsimp only; rw [if_pos rfl]; exact ⟨Nat.le_refl _, by omega, a, .inr q⟩
    | false =>
      dsimp only
      rw [if_neg (by decide)]
      refine kok_mono (fun r hr => ?_) (asc_ok O x f (m + 1) (by omega) (by omega) (a.succ O x (by omega) h1 q))
      obtain ⟨b1, b2, b3, b4⟩ := hr
      exact ⟨by omega, by omega, b3, b4.imp (fun e => by omega) id⟩
theorem desc_ok {p : Array Nat} (O : Ord c n) (x : PN n p) : ∀ (f m : Nat), 1 ≤ m → m + f ≤ n → Dsc c p m → kok c n (kas_desc f p m 0) (fun r => r.1 = p ∧ r.2.2 = 0 ∧ m ≤ r.2.1 ∧ r.2.1 ≤ m + f ∧ Dsc c p r.2.1)
  | 0, m, h1, hf, a => ⟨rfl, rfl, Nat.le_refl _, Nat.le_refl _, a⟩
  | f + 1, m, h1, hf, a => by
    refine ⟨x.lt (by omega), x.lt (by omega), ?_⟩
    cases q : c (p.getD m 0) (p.getD (m - 1) 0) with
    | true =>
      dsimp only
      rw [if_pos rfl, if_neg (by decide)]
      refine kok_mono (fun r hr => ?_) (desc_ok O x f (m + 1) (by omega) (by omega) (a.succ O x (by omega) h1 q))
      obtain ⟨b1, b2, b3, b4, b5⟩ := hr
      exact ⟨b1, b2, by omega, by omega, b5⟩
    | false =>
      dsimp only
      rw [if_neg (by decide)]
      refine ⟨x.lt (by omega), x.lt (by omega), ?_⟩
      have hl : c (p.getD (m - 1) 0) (p.getD m 0) = true := by
        rcases O.tot _ _ (x.lt (i := m - 1) (by omega)) (x.lt (i := m) (by omega)) (x.ne (by omega) (by omega) (by omega)) with q' | q'
        · exact q'
        · rw [q] at q'; cases q'
      rw [hl]
      dsimp only
      rw [if_pos rfl]
      exact ⟨rfl, rfl, Nat.le_refl _, by show m ≤ m + (f + 1); omega, a⟩
theorem getD_of {p q : Array Nat} {i j : Nat} (h : q[i]? = p[j]?) : q.getD i 0 = p.getD j 0 := by
  have e : ∀ (r : Array Nat) k, r.getD k 0 = (r[k]?).getD 0 := fun r k => by
    by_cases hk : k < r.size
    · simp [Array.getD, hk]
    · simp [Array.getD, hk]
  rw [e, e, h]
theorem rev_ok {p : Array Nat} (x : PN n p) {m : Nat} (hm : m ≤ n) : PN n (kas_rev p 0 m) ∧ ∀ i, (kas_rev p 0 m).getD i 0 = if i < m then p.getD (m - 1 - i) 0 else p.getD i 0 := by
  refine ⟨⟨(mirror_size ..).trans x.size, ((mirror_perm p 0 m _).toList).trans x.perm⟩, fun i => ?_⟩
  have := getElem?_mirror_all (xs := p) (i := 0) (j := m) (by rw [x.size]; exact hm) i
  split
  · rename_i h
    rw [if_pos ⟨Nat.zero_le _, h⟩] at this
    exact getD_of (by rw [show 0 + m - 1 - i = m - 1 - i by omega] at this; exact this)
  · rename_i h
    rw [if_neg (by omega)] at this
    exact getD_of this
theorem tail3_ok {p : Array Nat} (O : Ord c n) (x : PN n p) {m : Nat} (h1 : 1 ≤ m) (hm : m ≤ n) (d : Dsc c p m) : kok c n (kas_tail3 m n p) (fun r => PN n r.2 ∧ 1 ≤ r.1 ∧ r.1 ≤ n ∧ Asc c r.2 r.1) := by
  obtain ⟨x', e⟩ := rev_ok x hm
  have a : Asc c (kas_rev p 0 m) m := fun i j hij hj => by
    rw [e, e, if_pos (by omega), if_pos (by omega)]
    exact d _ _ (by omega) (by omega)
  refine kok_bind (kok_mono (fun r hr => ?_) (asc_ok O x' (n - m) m h1 (by omega) a))
  obtain ⟨b1, b2, b3, _⟩ := hr
  exact ⟨x', by show 1 ≤ r; omega, by show r ≤ n; omega, b3⟩
theorem count_ok {p : Array Nat} (O : Ord c n) (x : PN n p) (h2 : 2 ≤ n) : kok c n (kas_count n p) (fun r => PN n r.2 ∧ 1 ≤ r.1 ∧ r.1 ≤ n ∧ Asc c r.2 r.1) := by
  refine kok_bind (kok_mono (fun r hr => ?_) (asc_ok O x (n - 1) 1 (Nat.le_refl _) (by omega) fun i j hij hj => by omega))
  obtain ⟨b1, b2, b3, b4⟩ := hr
  by_cases h : (r == n) = true
  · rw [if_pos h]; exact ⟨x, b1, by show r ≤ n; omega, b3⟩
  rw [if_neg h]
  have hrn : r ≠ n := by simpa using h
  by_cases hr1 : r > 1
  · rw [if_pos hr1]
    refine ⟨x.lt (by omega), x.lt (by omega), ?_⟩
    rw [b3 0 (r - 1) (by omega) (by omega)]
    dsimp only
    rw [if_pos rfl]
    exact ⟨x, b1, by show r ≤ n; omega, b3⟩
  · rw [if_neg hr1]
    have : r = 1 := by omega
    subst this
    have b5 : c (p.getD 1 0) (p.getD 0 0) = true := by
      rcases b4 with q | q
      · omega
      · exact q
    have d2 : Dsc c p (1 + 1) := fun i j hij hj => by
      have : i = 0 := by omega
      have : j = 1 := by omega
      subst_vars; exact b5
    refine kok_bind (kok_mono (fun r hr => ?_) (desc_ok O x (n - (1 + 1)) (1 + 1) (by omega) (by omega) d2))
    obtain ⟨r1, r2, r3⟩ := r
    obtain ⟨e1, e2, e3, e4, e5⟩ := hr
    simp only at e1 e2 e3 e4 e5
    subst e1 e2
    dsimp only
    rw [if_neg (by decide)]
    exact tail3_ok O x (by omega) (by omega) e5
theorem place_ok {p : Array Nat} {k : Nat} (O : Ord c n) (x : PN n p) (hk : k < n) (a : Asc c p k) : ∀ (f l r : Nat), l ≤ r → r ≤ k → r - l ≤ f → (∀ i, i < l → c (p.getD i 0) (p.getD k 0) = true) → (∀ i, r ≤ i → i < k → c (p.getD k 0) (p.getD i 0) = true) →
    kok c n (kas_place p k f l r) (fun q => q ≤ k ∧ (∀ i, i < q → c (p.getD i 0) (p.getD k 0) = true) ∧ ∀ i, q ≤ i → i < k → c (p.getD k 0) (p.getD i 0) = true)
  | 0, l, r, hlr, hr, hf, h1, h2 => ⟨by omega, h1, fun i hi => h2 i (by omega)⟩
  | f + 1, l, r, hlr, hr, hf, h1, h2 => by
    unfold kas_place
    by_cases h : l ≥ r
    · rw [if_pos h]; exact ⟨by omega, h1, fun i hi => h2 i (by omega)⟩
    rw [if_neg h]
    have hm : (l + r) / 2 < k := by omega
    refine ⟨x.lt hk, x.lt (by omega), ?_⟩
    cases q : c (p.getD k 0) (p.getD ((l + r) / 2) 0) with
    | true =>
      dsimp only
      rw [if_pos rfl]
      refine place_ok O x hk a f l ((l + r) / 2) (by omega) (by omega) (by omega) h1 fun i hi hik => ?_
      by_cases e : i = (l + r) / 2
      · rw [e]; exact q
      · exact O.trans _ _ _ (x.lt hk) (x.lt (by omega)) (x.lt (by omega)) q (a _ _ (by omega) hik)
    | false =>
      dsimp only
      rw [if_neg (by decide)]
      have hl : c (p.getD ((l + r) / 2) 0) (p.getD k 0) = true := by
        rcases O.tot _ _ (x.lt (i := (l + r) / 2) (by omega)) (x.lt hk) (x.ne (by omega) hk (by omega)) with q' | q'
        · exact q'
        · rw [q] at q'; cases q'
      refine place_ok O x hk a f ((l + r) / 2 + 1) r (by omega) hr (by omega) (fun i hi => ?_) h2
      by_cases e : i = (l + r) / 2
      · rw [e]; exact hl
      · exact O.trans _ _ _ (x.lt (by omega)) (x.lt (by omega)) (x.lt hk) (a _ _ (by omega) hm) hl
theorem bin_ok (O : Ord c n) : ∀ (f k : Nat) {p : Array Nat}, PN n p → 1 ≤ k → k + f ≤ n → Asc c p k → kok c n (kas_bin f p k) (fun q => PN n q ∧ Asc c q (k + f))
  | 0, k, p, x, h1, hf, a => ⟨x, a⟩
  | f + 1, k, p, x, h1, hf, a => by
    refine kok_bind (kok_mono (fun l hl => ?_) (place_ok O x (by omega) a k 0 k (Nat.zero_le _) (Nat.le_refl _) (by omega) (by omega) (by omega)))
    obtain ⟨hlk, u1, u2⟩ := hl
    have hb : ∀ i, (bubble p k (k - l)).getD i 0 = if i = l then p.getD k 0 else if l < i ∧ i ≤ k then p.getD (i - 1) 0 else p.getD i 0 := fun i => by
      have := getElem?_bubble (xs := p) (src := k) (by rw [x.size]; omega) (k - l) (by omega) i
      rw [show k - (k - l) = l by omega] at this
      split
      · rename_i h; rw [if_pos h] at this; exact getD_of this
      · rename_i h
        rw [if_neg h] at this
        split
        · rename_i h'; rw [if_pos h'] at this; exact getD_of this
        · rename_i h'; rw [if_neg h'] at this; exact getD_of this
    have x' : PN n (bubble p k (k - l)) := ⟨(bubble_size ..).trans x.size, ((bubble_perm p k _).toList).trans x.perm⟩
    have a' : Asc c (bubble p k (k - l)) (k + 1) := fun i j hij hj => by
      rw [hb, hb]
      by_cases i1 : i = l
      · rw [if_pos i1, if_neg (by omega), if_pos ⟨by omega, by omega⟩]
        exact u2 (j - 1) (by omega) (by omega)
      rw [if_neg i1]
      by_cases j1 : j = l
      · rw [if_pos j1, if_neg (by omega)]
        exact u1 i (by omega)
      rw [if_neg j1]
      split <;> split <;> first | exact a _ _ (by omega) (by omega) | omega
    refine kok_mono (fun q hq => ?_) (bin_ok O f (k + 1) x' (by omega) (by omega) a')
    exact ⟨hq.1, by rw [show k + (f + 1) = k + 1 + f by omega]; exact hq.2⟩
theorem sort_ok (O : Ord c n) (h2 : 2 ≤ n) : kok c n (kas_sort n) (fun q => PN n q ∧ Asc c q n) := by
  refine kok_bind (kok_mono (fun r hr => ?_) (count_ok O ⟨by simp, by simp⟩ h2))
  obtain ⟨x, h1, hn, a⟩ := hr
  by_cases h : r.1 < n
  · rw [if_pos h, show max r.1 1 = r.1 by omega]
    refine kok_mono (fun q hq => ⟨hq.1, ?_⟩) (bin_ok O (n - r.1) r.1 x h1 (by omega) a)
    have := hq.2
    rwa [show r.1 + (n - r.1) = n by omega] at this
  · rw [if_neg h]
    have : r.1 = n := by omega
    exact ⟨x, this ▸ a⟩
/-- the walk's form -/
theorem kok_wp {α : Type} {P : α → Prop} {Inv : Shared → Prop} {cmp : Nat → Nat → (Bool → Shared → Prop) → Shared → Prop} {Q : α → Shared → Prop}
    (hc : ∀ i j C s, i < n → j < n → Inv s → (∀ s', Inv s' → C (c i j) s') → cmp i j C s) (hq : ∀ a s, P a → Inv s → Q a s) : ∀ {t : KasT α} {s : Shared}, kok c n t P → Inv s → t.kasWp cmp Q s
  | .ret a, s, x, i => hq a s x i
  | .ask i j k, s, x, h => hc i j _ s x.1 x.2.1 h fun s' h' => kok_wp hc hq x.2.2 h'
end
end Mine

end

section
open PySem PySem.W PySem.Calls PyProof.Rows
namespace Mine

/-- a term is read off its rows -/
theorem rows_app : ∀ (s t : T) (xs ys : List (Str × Nat)), s.rows ++ xs = t.rows ++ ys → s = t ∧ xs = ys := by
  intro s
  induction s with
  | leaf o =>
    intro t xs ys h
    cases t with
    | leaf p => simp [T.rows] at h; exact ⟨by rw [h.1], h.2⟩
    | one p t => simp [T.rows] at h
    | two p l r => simp [T.rows] at h
  | one o s ih =>
    intro t xs ys h
    cases t with
    | leaf p => simp [T.rows] at h
    | one p t =>
      simp only [T.rows, List.cons_append, List.cons.injEq, Prod.mk.injEq, and_true] at h
      obtain ⟨e, e'⟩ := ih t xs ys h.2
      exact ⟨by rw [h.1, e], e'⟩
    | two p l r => simp [T.rows] at h
  | two o l r ih jh =>
    intro t xs ys h
    cases t with
    | leaf p => simp [T.rows] at h
    | one p t => simp [T.rows] at h
    | two p l' r' =>
      simp only [T.rows, List.cons_append, List.cons.injEq, Prod.mk.injEq, and_true, List.append_assoc] at h
      obtain ⟨e1, h2⟩ := ih l' _ _ h.2
      obtain ⟨e2, h3⟩ := jh r' _ _ h2
      exact ⟨by rw [h.1, e1, e2], h3⟩
theorem rows_inj {s t : T} (h : s.rows = t.rows) : s = t := (rows_app s t [] [] (by simpa using h)).1
theorem str_ext {a b : Str} (h : a.cps.toList = b.cps.toList) : a = b := by
  obtain ⟨a⟩ := a; obtain ⟨b⟩ := b
  simp only at h
  rw [Array.toList_inj.mp h]

/-- the code of a term: its size, its ops, its numbers of kids, each as a list of numbers -/
noncomputable def code (t : T) : List (List Nat) := [t.size] :: (t.rows.map (fun r => r.1.cps.toList) ++ t.rows.map (fun r => [r.2]))
theorem code_inj {s t : T} (h : code s = code t) : s = t := by
  unfold code at h
  simp only [List.cons.injEq, and_true] at h
  obtain ⟨h1, h2⟩ := h
  have hl : (s.rows.map fun r => r.1.cps.toList).length = (t.rows.map fun r => r.1.cps.toList).length := by simp [T.rows_len, h1]
  obtain ⟨e1, e2⟩ := List.append_inj h2 hl
  refine rows_inj ?_
  have key : ∀ (xs ys : List (Str × Nat)), (xs.map fun r => r.1.cps.toList) = (ys.map fun r => r.1.cps.toList) → (xs.map fun r => [r.2]) = (ys.map fun r => [r.2]) → xs = ys := by
    intro xs
    induction xs with
    | nil => intro ys h _; cases ys <;> simp_all
    | cons x xs ih =>
      intro ys h h'
      cases ys with
      | nil => simp at h
      | cons y ys =>
        simp only [List.map_cons, List.cons.injEq, and_true] at h h'
        rw [ih ys h.2 h'.2]
        congr 1
        exact Prod.ext (str_ext h.1) h'.1
  exact key _ _ e1 e2

/-- the first unlike pair decides -/
theorem diff_lt {α β : Type} {ne lt : α → α → Bool} {f : α → List Nat} (hne : ∀ a b, ne a b = true ↔ f a ≠ f b) (hlt : ∀ a b, lt a b = true ↔ f a < f b) : ∀ (xs ys : List α) (us vs : List (List Nat)), xs.length = ys.length →
    ((xs.map f ++ us < ys.map f ++ vs) ↔ (match firstDiff ne lt xs ys with | some b => b = true | none => us < vs))
  | [], [], us, vs, _ => by simp [firstDiff]
  | [], _ :: _, _, _, h => by simp at h
  | _ :: _, [], _, _, h => by simp at h
  | x :: xs, y :: ys, us, vs, h => by
    simp only [List.map_cons, List.cons_append, firstDiff]
    rw [List.cons_lt_cons_iff]
    by_cases q : ne x y = true
    · rw [if_pos q]
      have q' := (hne x y).mp q
      simp only
      rw [hlt]
      exact ⟨fun h => h.elim id fun h => absurd h.1 q', .inl⟩
    · rw [if_neg q]
      have q' : f x = f y := Classical.byContradiction fun z => q ((hne x y).mpr z)
      rw [← diff_lt (β := β) hne hlt xs ys us vs (by simpa using h)]
      constructor
      · rintro (h | h)
        · rw [q'] at h; exact absurd h (List.lt_irrefl _)
        · exact h.2
      · exact fun h => .inr ⟨q', h⟩
theorem nat1_lt {a b : Nat} : ([a] < [b]) ↔ a < b := by
  rw [List.cons_lt_cons_iff]
  constructor
  · rintro (h | ⟨_, h⟩)
    · exact h
    · exact absurd h (List.lt_irrefl _)
  · exact .inl
theorem ahead_iff (s t : T) : ahead s t = true ↔ code s < code t := by
  unfold ahead rowsAhead code
  rw [List.cons_lt_cons_iff, nat1_lt]
  by_cases hl : s.rows.length = t.rows.length
  · rw [if_neg (by simpa using hl)]
    have hs : s.size = t.size := by rw [← T.rows_len, ← T.rows_len, hl]
    have d0 := diff_lt (β := Unit) (ne := cne 0) (lt := clt 0) (f := fun r : Str × Nat => r.1.cps.toList) (fun a b => by simp [cne, sne]) (fun a b => by simp [clt, slt]) s.rows t.rows (s.rows.map fun r => [r.2]) (t.rows.map fun r => [r.2]) hl
    have d1 := diff_lt (β := Unit) (ne := cne 1) (lt := clt 1) (f := fun r : Str × Nat => [r.2]) (fun a b => by simp [cne]) (fun a b => by simp [clt, nat1_lt]) s.rows t.rows [] [] hl
    simp only [List.append_nil] at d1
    rw [d0]
    constructor
    · intro h
      refine .inr ⟨by rw [hs], ?_⟩
      cases q : firstDiff (cne 0) (clt 0) s.rows t.rows with
      | some b => rw [q] at h; exact h
      | none =>
        rw [q] at h
        rw [d1]
        cases q' : firstDiff (cne 1) (clt 1) s.rows t.rows with
        | some b => rw [q'] at h; exact h
        | none => rw [q'] at h; cases h
    · rintro (h | ⟨_, h⟩)
      · omega
      · cases q : firstDiff (cne 0) (clt 0) s.rows t.rows with
        | some b => rw [q] at h; exact h
        | none =>
          rw [q] at h
          rw [d1] at h
          cases q' : firstDiff (cne 1) (clt 1) s.rows t.rows with
          | some b => rw [q'] at h; exact h
          | none => rw [q'] at h; exact absurd h (List.lt_irrefl _)
  · rw [if_pos (by simpa using hl), decide_eq_true_iff, T.rows_len, T.rows_len]
    rw [T.rows_len, T.rows_len] at hl
    constructor
    · exact .inl
    · rintro (h | ⟨h, _⟩)
      · exact h
      · simp at h; exact absurd h hl
theorem ahead_trans {s t u : T} (h1 : ahead s t = true) (h2 : ahead t u = true) : ahead s u = true := by
  rw [ahead_iff] at *; exact List.lt_trans h1 h2
theorem ahead_asym {s t : T} (h : ahead s t = true) : ahead t s = false := by
  cases q : ahead t s with
  | false => rfl
  | true => rw [ahead_iff] at *; exact absurd (List.lt_trans h q) (List.lt_irrefl _)
theorem ahead_tot {s t : T} (h : s ≠ t) : ahead s t = true ∨ ahead t s = true := by
  rw [ahead_iff, ahead_iff]
  exact Classical.byContradiction fun n => h (code_inj (List.le_antisymm (List.not_lt.mp fun z => n (.inr z)) (List.not_lt.mp fun z => n (.inl z))))

/-- the compare of the keys as the walk finds it -/
noncomputable def els0 (s t : T) : List (Bool × Bool) := (s.rows.zip t.rows).map fun p => (decide (p.1.1 = p.2.1), slt p.1.1 p.2.1)
noncomputable def els1 (s t : T) : List (Bool × Bool) := (s.rows.zip t.rows).map fun p => (decide (p.1.2 = p.2.2), decide (p.1.2 < p.2.2))
theorem lex_diff {α : Type} {ne lt : α → α → Bool} {e : α → α → Bool} (he : ∀ a b, e a b = !ne a b) (f : Bool) : ∀ (xs ys : List α), xs.length = ys.length →
    lexLt ((xs.zip ys).map fun p => (e p.1 p.2, lt p.1 p.2)) f = match firstDiff ne lt xs ys with | some b => b | none => f
  | [], [], _ => rfl
  | [], _ :: _, h => by simp at h
  | _ :: _, [], h => by simp at h
  | x :: xs, y :: ys, h => by
    simp only [List.zip_cons_cons, List.map_cons, lexLt, firstDiff]
    rw [he]
    cases q : ne x y with
    | true => simp
    | false => simpa using lex_diff he f xs ys (by simpa using h)
theorem diff_none {α β : Type} [DecidableEq β] {ne lt : α → α → Bool} {f : α → β} (hne : ∀ a b, ne a b = true ↔ f a ≠ f b) : ∀ (xs ys : List α), xs.length = ys.length → (firstDiff ne lt xs ys = none ↔ xs.map f = ys.map f)
  | [], [], _ => by simp [firstDiff]
  | [], _ :: _, h => by simp at h
  | _ :: _, [], h => by simp at h
  | x :: xs, y :: ys, h => by
    simp only [firstDiff, List.map_cons, List.cons.injEq]
    by_cases q : ne x y = true
    · rw [if_pos q]; simp [(hne x y).mp q]
    · rw [if_neg q, diff_none hne xs ys (by simpa using h)]
      have q' : f x = f y := Classical.byContradiction fun z => q ((hne x y).mpr z)
      simp [q']
noncomputable def keyLt (s t : T) : Bool := lexLt [(decide (s.size = t.size), decide (s.size < t.size)), (decide (s.rows.map (·.1) = t.rows.map (·.1)), lexLt (els0 s t) (decide (s.rows.length < t.rows.length))),
  (decide (s.rows.map (·.2) = t.rows.map (·.2)), lexLt (els1 s t) (decide (s.rows.length < t.rows.length)))] false
theorem keyLt_ahead (s t : T) : keyLt s t = ahead s t := by
  unfold keyLt ahead rowsAhead
  simp only [lexLt]
  by_cases hl : s.rows.length = t.rows.length
  · have hs : s.size = t.size := by rw [← T.rows_len, ← T.rows_len, hl]
    rw [if_neg (show ¬ s.rows.length ≠ t.rows.length by simpa using hl), if_pos (by simpa using hs)]
    have ne0 : ∀ a b : Str × Nat, cne 0 a b = true ↔ a.1 ≠ b.1 := fun a b => by
      simp only [cne, sne, if_true, bne_iff_ne, ne_eq]
      exact ⟨fun h e => h (by rw [e]), fun h e => h (str_ext e)⟩
    have ne1 : ∀ a b : Str × Nat, cne 1 a b = true ↔ a.2 ≠ b.2 := fun a b => by simp [cne]
    have l0 := lex_diff (ne := cne 0) (lt := clt 0) (e := fun a b => decide (a.1 = b.1)) (fun a b => by
      by_cases q : a.1 = b.1
      · have : cne 0 a b = false := Bool.eq_false_iff.mpr fun z => (ne0 a b).mp z q
        simp [q, this]
      · have : cne 0 a b = true := (ne0 a b).mpr q
        simp [q, this]) (decide (s.rows.length < t.rows.length)) s.rows t.rows hl
    have l1 := lex_diff (ne := cne 1) (lt := clt 1) (e := fun a b => decide (a.2 = b.2)) (fun a b => by
      by_cases q : a.2 = b.2
      · have : cne 1 a b = false := Bool.eq_false_iff.mpr fun z => (ne1 a b).mp z q
        simp [q, this]
      · have : cne 1 a b = true := (ne1 a b).mpr q
        simp [q, this]) (decide (s.rows.length < t.rows.length)) s.rows t.rows hl
    have n0 := diff_none (lt := clt 0) ne0 s.rows t.rows hl
    have n1 := diff_none (lt := clt 1) ne1 s.rows t.rows hl
    have f : decide (s.rows.length < t.rows.length) = false := decide_eq_false (by omega)
    have e0 : els0 s t = (s.rows.zip t.rows).map fun p => (decide (p.1.1 = p.2.1), clt 0 p.1 p.2) := rfl
    have e1 : els1 s t = (s.rows.zip t.rows).map fun p => (decide (p.1.2 = p.2.2), clt 1 p.1 p.2) := rfl
    rw [e0, e1, l0, l1, f]
    cases q : firstDiff (cne 0) (clt 0) s.rows t.rows with
    | some b => rw [if_neg (by rw [decide_eq_true_iff]; intro z; rw [n0.mpr z] at q; cases q)]
    | none =>
      rw [if_pos (by rw [decide_eq_true_iff]; exact n0.mp q)]
      cases q' : firstDiff (cne 1) (clt 1) s.rows t.rows with
      | some b => rw [if_neg (by rw [decide_eq_true_iff]; intro z; rw [n1.mpr z] at q'; cases q')]
      | none => rw [if_pos (by rw [decide_eq_true_iff]; exact n1.mp q')]
  · rw [if_pos (show s.rows.length ≠ t.rows.length from hl)]
    rw [T.rows_len, T.rows_len] at hl ⊢
    rw [if_neg (by simpa using hl)]
end Mine

end

section
open PySem PySem.W PySem.Calls PyProof.Rows
namespace Mine

theorem eqat_str {A : Around} {s : Shared} {a b : Str} {t u : Tok} : SeqAt.EqAt A s (.str a t) (.str b u) (decide (a = b)) := fun prog w E Q h => wpAny_eqBool_str h
theorem eqat_int {A : Around} {s : Shared} {a b : Int} {t u : Tok} : SeqAt.EqAt A s (.int a t) (.int b u) (decide (a = b)) := fun prog w E Q h => wpAny_eqBool_int (by rwa [show (a == b) = decide (a = b) from rfl])
theorem ltat_str {A : Around} {s : Shared} {a b : Str} {t u : Tok} : LtAt A s (.str a t) (.str b u) (slt a b) := fun prog w E Q h => PySem.P.lt_str (E := E) h
theorem ltat_int {A : Around} {s : Shared} {a b : Int} {t u : Tok} : LtAt A s (.int a t) (.int b u) (decide (a < b)) := fun prog w E Q h => lt_int (E := E) h

/-- a key as data -/
noncomputable def keyDat (t : T) : Dat := .tuple [.int t.size, .tuple (t.rows.map fun r => .str r.1), .tuple (t.rows.map fun r => .int r.2)]
theorem map_inj {α β γ : Type} {f : β → γ} (hf : ∀ a b, f a = f b → a = b) {g : α → β} : ∀ {xs ys : List α}, xs.map (fun x => f (g x)) = ys.map (fun x => f (g x)) → xs.map g = ys.map g
  | [], [], _ => rfl
  | [], _ :: _, h => by simp at h
  | _ :: _, [], h => by simp at h
  | x :: xs, y :: ys, h => by
    simp only [List.map_cons, List.cons.injEq] at h ⊢
    exact ⟨hf _ _ h.1, map_inj hf h.2⟩
theorem rows_of {xs ys : List (Str × Nat)} (h1 : xs.map (·.1) = ys.map (·.1)) (h2 : xs.map (·.2) = ys.map (·.2)) : xs = ys := by
  induction xs generalizing ys with
  | nil => cases ys <;> simp_all
  | cons x xs ih =>
    cases ys with
    | nil => simp at h1
    | cons y ys =>
      simp only [List.map_cons, List.cons.injEq] at h1 h2
      rw [ih h1.2 h2.2, Prod.ext h1.1 h2.1]
theorem keyDat_inj {s t : T} (h : keyDat s = keyDat t) : s = t := by
  unfold keyDat at h
  simp only [Dat.tuple.injEq, List.cons.injEq, and_true] at h
  obtain ⟨_, h1, h2⟩ := h
  refine rows_inj (rows_of (map_inj (f := Dat.str) (g := fun r : Str × Nat => r.1) (fun a b h => by cases h; rfl) h1) ?_)
  exact map_inj (f := fun k : Nat => Dat.int k) (g := fun r : Str × Nat => r.2) (fun a b h => by simp only [Dat.int.injEq] at h; omega) h2
theorem rows_good {t : T} (g : GoodT t) : ∀ r, r ∈ t.rows → GoodOp r.1 := fun r hr => by
  rw [T.rows_subs] at hr
  obtain ⟨s, hs, rfl⟩ := List.mem_map.mp hr
  exact g s hs
theorem strs_ok {xs : List (Str × Nat)} (h : ∀ r, r ∈ xs → GoodOp r.1) : kqdOk 1 (.tuple (xs.map fun r => .str r.1)) = true := by
  simp only [kqdOk, List.all_eq_true]
  intro d hd
  obtain ⟨r, hr, rfl⟩ := List.mem_map.mp hd
  simpa [kqdOk] using (h r hr).strOk
theorem ints_ok {xs : List (Str × Nat)} : kqdOk 1 (.tuple (xs.map fun r => .int r.2)) = true := by
  simp only [kqdOk, List.all_eq_true]
  intro d hd
  obtain ⟨r, hr, rfl⟩ := List.mem_map.mp hd
  simp [kqdOk]
theorem keyDat_ok {t : T} (g : GoodT t) : kqdOk 2 (keyDat t) = true := by
  have h1 := strs_ok (rows_good g)
  have h2 := ints_ok (xs := t.rows)
  simp only [keyDat, kqdOk, List.all_cons, List.all_nil, Bool.and_true, Bool.true_and, Bool.and_eq_true] at h1 h2 ⊢
  exact ⟨h1, h2⟩
theorem reads_strs {h : Heap} {xs : List (Str × Nat)} {os : List Value} (a : All2 StrIs (xs.map (·.1)) os) : ReadsAll h os (kqdPs (xs.map fun r => .str r.1)) [] := by
  induction xs generalizing os with
  | nil => cases a; exact .nil
  | cons x xs ih => cases a with | cons q r => obtain ⟨u, rfl⟩ := q; exact readsAll_cons_val (Reads.str _ _) (ih r)
theorem reads_nats {h : Heap} {xs : List (Str × Nat)} {os : List Value} (a : All2 NatIs (xs.map (·.2)) os) : ReadsAll h os (kqdPs (xs.map fun r => .int r.2)) [] := by
  induction xs generalizing os with
  | nil => cases a; exact .nil
  | cons x xs ih => cases a with | cons q r => obtain ⟨u, rfl⟩ := q; exact readsAll_cons_val (Reads.int _ _) (ih r)
theorem KeyAt.reads {h : Heap} {t : T} {v : Value} (x : KeyAt h t v) : ∃ as, Reads h v (kqdP (keyDat t)) as := by
  obtain ⟨a, b, c, u, os, ns, rfl, ⟨m, p⟩, ⟨m1, q⟩, ao, ⟨m2, r⟩, an⟩ := x
  exact ⟨_, reads_tuple_at p rfl rfl (ReadsAll.cons (Reads.int _ u) (.cons (reads_tuple_at q rfl rfl (reads_strs ao)) (.cons (reads_tuple_at r rfl rfl (reads_nats an)) .nil)))⟩
theorem dat_shaped {d : Dat} {n : Nat} (h : kqdOk n d = true) (hn : n ≤ 9) : SeqAt.shaped (kqdP d) = true := by
  have l := kqd_lay n d h
  unfold SeqAt.shaped
  rw [l.1, Bool.true_and]
  exact decide_eq_true (Nat.le_trans l.2 (by omega))
theorem dat_eqv {d e : Dat} {n k : Nat} {q : Bool} (h1 : kqdOk n d = true) (h2 : kqdOk k e = true) (hq : q = true ↔ d = e) : PyData.eqv (kqdP d) (kqdP e) = q := by
  have := kqd_eqv n d e k h1 h2
  cases q with
  | true => exact this.mpr (hq.mp rfl)
  | false => exact Bool.eq_false_iff.mpr fun z => Bool.false_ne_true (hq.mpr (this.mp z))
theorem eqat_dat {A : Around} {s : Shared} {v v' : Value} {d e : Dat} {n k : Nat} {q : Bool} {as bs : List Addr} (ra : Reads s.heap v (kqdP d) as) (rb : Reads s.heap v' (kqdP e) bs) (h1 : kqdOk n d = true) (h2 : kqdOk k e = true) (hn : n ≤ 9) (hk : k ≤ 9) (hq : q = true ↔ d = e) (hu : A.units + 64 < cLine) : SeqAt.EqAt A s v v' q := by
  have := SeqAt.eqAt_reads _ _ A s v v' as bs ra rb (SeqAt.canLay_of_shaped (dat_shaped h1 hn)) (SeqAt.canLay_of_shaped (dat_shaped h2 hk)) (SeqAt.room_of_shaped (dat_shaped h1 hn) hu)
  rwa [dat_eqv h1 h2 hq] at this
theorem pairs0 {A : Around} {s : Shared} : ∀ {xs ys : List (Str × Nat)} {os ps : List Value}, All2 StrIs (xs.map (·.1)) os → All2 StrIs (ys.map (·.1)) ps → All2 (PairAt A s) (os.zip ps) ((xs.zip ys).map fun p => (decide (p.1.1 = p.2.1), slt p.1.1 p.2.1))
  | [], _, _, _, a, _ => by cases a; simp; exact .nil
  | _ :: _, [], _, _, _, b => by cases b; simp; exact .nil
  | x :: xs, y :: ys, _, _, a, b => by
    cases a with
    | cons p a =>
      cases b with
      | cons q b =>
        obtain ⟨u, rfl⟩ := p
        obtain ⟨v, rfl⟩ := q
        exact .cons ⟨eqat_str, fun _ => ltat_str⟩ (pairs0 a b)
theorem pairs1 {A : Around} {s : Shared} : ∀ {xs ys : List (Str × Nat)} {os ps : List Value}, All2 NatIs (xs.map (·.2)) os → All2 NatIs (ys.map (·.2)) ps → All2 (PairAt A s) (os.zip ps) ((xs.zip ys).map fun p => (decide (p.1.2 = p.2.2), decide (p.1.2 < p.2.2)))
  | [], _, _, _, a, _ => by cases a; simp; exact .nil
  | _ :: _, [], _, _, _, b => by cases b; simp; exact .nil
  | x :: xs, y :: ys, _, _, a, b => by
    cases a with
    | cons p a =>
      cases b with
      | cons q b =>
        obtain ⟨u, rfl⟩ := p
        obtain ⟨v, rfl⟩ := q
        refine .cons ⟨?_, fun _ => ?_⟩ (pairs1 a b)
        · have := eqat_int (A := A) (s := s) (a := (x.2 : Int)) (b := (y.2 : Int)) (t := u) (u := v)
          rwa [show decide ((x.2 : Int) = (y.2 : Int)) = decide (x.2 = y.2) from decide_eq_decide.mpr (by omega)] at this
        · have := ltat_int (A := A) (s := s) (a := (x.2 : Int)) (b := (y.2 : Int)) (t := u) (u := v)
          rwa [show decide ((x.2 : Int) < (y.2 : Int)) = decide (x.2 < y.2) from decide_eq_decide.mpr (by omega)] at this
/-- keys: == and < -/
theorem KeyAt.eqat {A : Around} {s : Shared} {a b : T} {v v' : Value} {q : Bool} (x : KeyAt s.heap a v) (y : KeyAt s.heap b v') (ga : GoodT a) (gb : GoodT b) (hu : A.units + 64 < cLine) (hq : q = true ↔ a = b) : SeqAt.EqAt A s v v' q := by
  obtain ⟨as, ra⟩ := x.reads
  obtain ⟨bs, rb⟩ := y.reads
  exact eqat_dat ra rb (keyDat_ok ga) (keyDat_ok gb) (by omega) (by omega) (hq.trans ⟨fun e => by rw [e], keyDat_inj⟩) hu
theorem KeyAt.ltat {A : Around} {s : Shared} {a b : T} {v v' : Value} (x : KeyAt s.heap a v) (y : KeyAt s.heap b v') (ga : GoodT a) (gb : GoodT b) (hu : A.units + 80 < cLine) : LtAt A s v v' (ahead a b) := by
  rw [← keyLt_ahead]
  obtain ⟨a1, b1, c1, u1, os, ns, rfl, p1, q1, ao, r1, an⟩ := x
  obtain ⟨a2, b2, c2, u2, ps, ms, rfl, p2, q2, bo, r2, bn⟩ := y
  have hlo := ao.length
  have hlp := bo.length
  have hln := an.length
  have hlm := bn.length
  simp only [List.length_map] at hlo hlp hln hlm
  unfold keyLt
  refine tup_lt p1 p2 (by omega) (.cons ⟨?_, fun _ => ?_⟩ (.cons ⟨?_, fun _ => ?_⟩ (.cons ⟨?_, fun _ => ?_⟩ .nil)))
  · have := eqat_int (A := A.in1) (s := s) (a := (a.size : Int)) (b := (b.size : Int)) (t := u1) (u := u2)
    rwa [show decide ((a.size : Int) = (b.size : Int)) = decide (a.size = b.size) from decide_eq_decide.mpr (by omega)] at this
  · have := ltat_int (A := A.in1) (s := s) (a := (a.size : Int)) (b := (b.size : Int)) (t := u1) (u := u2)
    rwa [show decide ((a.size : Int) < (b.size : Int)) = decide (a.size < b.size) from decide_eq_decide.mpr (by omega)] at this
  · obtain ⟨m1, e1⟩ := q1
    obtain ⟨m2, e2⟩ := q2
    refine eqat_dat (d := .tuple (a.rows.map fun r => .str r.1)) (e := .tuple (b.rows.map fun r => .str r.1)) (reads_tuple_at e1 rfl rfl (reads_strs ao)) (reads_tuple_at e2 rfl rfl (reads_strs bo)) (strs_ok (rows_good ga)) (strs_ok (rows_good gb)) (by omega) (by omega) ?_ (by show A.units + 1 + 64 < _; omega)
    rw [decide_eq_true_iff, Dat.tuple.injEq]
    exact ⟨fun e => by have := congrArg (List.map Dat.str) e; rw [List.map_map, List.map_map] at this; exact this, fun e => map_inj (f := Dat.str) (g := fun r : Str × Nat => r.1) (fun a b h => by cases h; rfl) e⟩
  · rw [hlo, hlp]
    exact tup_lt q1 q2 (by show A.units + 1 < _; omega) (pairs0 ao bo)
  · obtain ⟨m1, e1⟩ := r1
    obtain ⟨m2, e2⟩ := r2
    refine eqat_dat (d := .tuple (a.rows.map fun r => .int r.2)) (e := .tuple (b.rows.map fun r => .int r.2)) (reads_tuple_at e1 rfl rfl (reads_nats an)) (reads_tuple_at e2 rfl rfl (reads_nats bn)) ints_ok ints_ok (by omega) (by omega) ?_ (by show A.units + 1 + 64 < _; omega)
    rw [decide_eq_true_iff, Dat.tuple.injEq]
    exact ⟨fun e => by have := congrArg (List.map fun k : Nat => Dat.int k) e; rw [List.map_map, List.map_map] at this; exact this, fun e => map_inj (f := fun k : Nat => Dat.int k) (g := fun r : Str × Nat => r.2) (fun a b h => by simp only [Dat.int.injEq] at h; omega) e⟩
  · rw [hln, hlm]
    exact tup_lt r1 r2 (by show A.units + 1 < _; omega) (pairs1 an bn)

section
variable {prog : Program} {w : World} {g : Shared} {hb : Heap} {A : Around} {h : Heap} {env : Env}
theorem o_lt_key {a b : T} {v v' : Value} {Q : Value → Heap → Prop} (x : KeyAt h a v) (y : KeyAt h b v') (ga : GoodT a) (gb : GoodT b) (hu : A.units + 80 < cLine) (k : Q (.bool (ahead a b)) h) : W prog w g A (compareOp .Lt v v') Q h :=
  ⟨fun n => KeyAt.ltat (s := sh g h n) x y ga gb hu prog w _ _ (.mk k)⟩
theorem o_eq_key {a b : T} {v v' : Value} {q : Bool} {Q : Value → Heap → Prop} (x : KeyAt h a v) (y : KeyAt h b v') (ga : GoodT a) (gb : GoodT b) (hu : A.units + 64 < cLine) (hq : q = true ↔ a = b) (k : Q (.bool q) h) : W prog w g A (compareOp .Eq v v') Q h := by
  obtain ⟨as, ra⟩ := x.reads
  obtain ⟨bs, rb⟩ := y.reads
  refine ⟨fun n => eq_dataH (s := sh g h n) ra rb (dat_shaped (keyDat_ok ga) (by omega)) (dat_shaped (keyDat_ok gb) (by omega)) hu ?_⟩
  rw [dat_eqv (keyDat_ok ga) (keyDat_ok gb) (q := q) (hq.trans ⟨fun e => by rw [e], keyDat_inj⟩)]
  exact .mk k
/-- lists of the same terms; of the same numbers -/
theorem o_ne_terms {a b : Addr} {us : List T} {vs ws : List Value} {Q : Value → Heap → Prop} (la : LstAt h a vs) (lb : LstAt h b ws) (au : All2 (TermAt h) us vs) (bu : All2 (TermAt h) us ws) (gu : ∀ u, u ∈ us → GoodT u ∧ u.deep ≤ 7) (hu : A.units + 64 < cLine) (k : Q (.bool false) h) :
    W prog w g A (compareOp .NotEq (.ref a) (.ref b)) Q h := by
  obtain ⟨as, ra⟩ := terms_read au
  obtain ⟨bs, rb⟩ := terms_read bu
  obtain ⟨m, p⟩ := la
  obtain ⟨m', p'⟩ := lb
  have ok : kqdOk 8 (.list (us.map T.dat)) = true := by
    simp only [kqdOk, List.all_eq_true]
    intro d hd
    obtain ⟨u, hu, rfl⟩ := List.mem_map.mp hd
    exact T.dat_ok (gu u hu).1 (gu u hu).2
  have sp := dat_shaped ok (by omega)
  refine ⟨fun n => ne_dataH (s := sh g h n) (reads_list_at p rfl rfl ra) (reads_list_at p' rfl rfl rb) sp sp hu ?_⟩
  have e := dat_eqv ok ok (q := true) (by simp)
  rw [kqdP] at e
  rw [e]
  exact .mk k
theorem reads_ints {h : Heap} {is : List Nat} {os : List Value} (a : All2 NatIs is os) : ReadsAll h os (kqdPs (is.map fun (k : Nat) => Dat.int k)) [] := by
  induction a with
  | nil => exact .nil
  | cons q _ ih => obtain ⟨u, rfl⟩ := q; exact readsAll_cons_val (Reads.int _ _) ih
theorem o_ne_nats {a b : Addr} {is : List Nat} {vs ws : List Value} {Q : Value → Heap → Prop} (la : LstAt h a vs) (lb : LstAt h b ws) (au : All2 NatIs is vs) (bu : All2 NatIs is ws) (hu : A.units + 64 < cLine) (k : Q (.bool false) h) :
    W prog w g A (compareOp .NotEq (.ref a) (.ref b)) Q h := by
  obtain ⟨m, p⟩ := la
  obtain ⟨m', p'⟩ := lb
  have ok : kqdOk 8 (.list (is.map fun (k : Nat) => Dat.int k)) = true := by
    simp only [kqdOk, List.all_eq_true]
    intro d hd
    obtain ⟨u, hu, rfl⟩ := List.mem_map.mp hd
    simp [kqdOk]
  have sp := dat_shaped ok (by omega)
  refine ⟨fun n => ne_dataH (s := sh g h n) (reads_list_at p rfl rfl (reads_ints au)) (reads_list_at p' rfl rfl (reads_ints bu)) sp sp hu ?_⟩
  have e := dat_eqv ok ok (q := true) (by simp)
  rw [kqdP] at e
  rw [e]
  exact .mk k
theorem o_isnot {a b : Bool} {Q : Value → Heap → Prop} (k : Q (.bool (a != b)) h) : W prog w g A (compareOp .IsNot (.bool a) (.bool b)) Q h :=
  ⟨fun n => wpAny_of_eq (a := Value.bool (a != b)) (by cases a <;> cases b <;> rfl) (.mk k)⟩
end
end Mine

end

section
open PySem PySem.W PySem.Calls PyProof.Rows
namespace Mine

/-- all that is new -/
noncomputable def newsOf (hb : Heap) (L : Addr) (h : Heap) : List (Addr × Obj) := (List.range h.objs.size).filterMap fun a => if a = L ∨ (hb.get? a).isSome = true then none else (h.get? a).map fun o => (a, o)
theorem mem_newsOf {hb h : Heap} {L a : Addr} {o : Obj} : (a, o) ∈ newsOf hb L h ↔ h.get? a = some o ∧ a ≠ L ∧ hb.get? a = none := by
  unfold newsOf
  rw [List.mem_filterMap]
  constructor
  · rintro ⟨b, _, e⟩
    by_cases q : b = L ∨ (hb.get? b).isSome = true
    · rw [if_pos q] at e; cases e
    · rw [if_neg q] at e
      cases e' : h.get? b with
      | none => rw [e'] at e; cases e
      | some x =>
        rw [e'] at e
        cases e
        refine ⟨e', fun z => q (.inl z), ?_⟩
        cases z : hb.get? a with
        | none => rfl
        | some y => exact absurd (.inr (by rw [z]; rfl)) q
  · rintro ⟨e, n, z⟩
    refine ⟨a, List.mem_range.mpr (Heap.lt_size e), ?_⟩
    rw [if_neg (by rintro (q | q); exact n q; rw [z] at q; cases q), e]
    rfl
theorem news_newsOf {hb h : Heap} {L : Addr} : News hb L h (newsOf hb L h) := fun p hp => mem_newsOf.mp (show (p.1, p.2) ∈ _ from hp)
theorem ext_news {hb h h' : Heap} {L : Addr} {m m' : Str → Option Value} {x : Addr × Obj} (hn : h.Ns L m) (S : St hb h) (F : Fr hb L h' m') (N : News hb L h' (x :: newsOf hb L h)) : Ext (· = L) h h' := by
  have keep : ∀ b o, b ≠ L → h.get? b = some o → h'.get? b = some o := fun b o nb e => by
    cases z : hb.get? b with
    | none => exact (N (b, o) (.tail _ (mem_newsOf.mpr ⟨e, nb, z⟩))).1
    | some y =>
      have := S _ _ z
      rw [e] at this
      cases this
      exact F.keep _ _ z
  refine ⟨fun b o e => ?_, keep, fun b vs n e => keep b _ (fun q => ?_) e⟩
  · by_cases q : b = L
    · obtain ⟨o', _, _, e', _⟩ := F.ns
      exact ⟨o', q ▸ e'⟩
    · exact ⟨o, keep b o q e⟩
  · subst q
    exact ns_ne_tup hn _ e vs n rfl

noncomputable def PairV (h : Heap) (v : Value) : Prop := ∃ a k i u t, v = .ref a ∧ TupAt h a [k, .int i u] ∧ KeyAt h t k
theorem kat_of {h : Heap} : ∀ {vs : List Value}, (∀ v, v ∈ vs → PairV h v) → ∃ fs, KatTups h vs fs ∧ fs.length = vs.length ∧ ∀ f, f ∈ fs → ∃ t, KeyAt h t f
  | [], _ => ⟨[], trivial, rfl, by simp⟩
  | v :: vs, x => by
    obtain ⟨fs, k, l, q⟩ := kat_of (vs := vs) fun v hv => x v (.tail _ hv)
    obtain ⟨a, f, i, u, t, rfl, ⟨n, e⟩, kt⟩ := x v (.head _)
    refine ⟨f :: fs, KatTups.cons e rfl rfl rfl k, by simp [l], fun g hg => ?_⟩
    rcases List.mem_cons.mp hg with rfl | hg
    · exact ⟨t, kt⟩
    · exact q g hg

theorem nodup_inj {α : Type} {us : List α} (nd : us.Nodup) {i j : Nat} (hi : i < us.length) (hj : j < us.length) (e : us[i] = us[j]) : i = j := by
  have p := List.pairwise_iff_getElem.mp nd
  rcases Nat.lt_trichotomy i j with q | q | q
  · exact absurd e (p i j hi hj q)
  · exact q
  · exact absurd e.symm (p j i hj hi q)
section
variable {prog : Program} {w : World} {g : Shared} {hb : Heap} {A : Around} {h : Heap} {env : Env}
theorem c_sorted_pairs {l L : Addr} {us : List T} {vs : List Value} {m : Str → Option Value} (d : T) {Q : Value → Heap → Prop} (hn : h.Ns L m) (hab : hb.objs.size ≤ L) (S : St hb h) (hu : A.units + 100 < cLine)
    (hl : LstAt h l vs) (hlen : vs.length = us.length) (h2 : 2 ≤ us.length) (h64 : us.length < 64)
    (hp : ∀ (i : Nat) (t : T), us[i]? = some t → ∃ a k u, vs[i]? = some (.ref a) ∧ TupAt h a [k, .int (i : Int) u] ∧ KeyAt h t k) (gd : ∀ u, u ∈ us → GoodT u) (nd : us.Nodup)
    (k : ∀ h₁ D p, Ext (· = L) h h₁ → h₁.Ns L m → h.get? D = none → PN us.length p → Asc (fun i j => ahead (us.getD i d) (us.getD j d)) p us.length → LstAt h₁ D (p.toList.map fun i => vs.getD i .none) → Q (.ref D) h₁) :
    W prog w g A (call (.builtin "sorted") [.ref l]) Q h := by
  refine ⟨fun n => kat_sorted (s := sh g h n) (h₀ := hb) (L := L) (m := m) ⟨hn, S, hab⟩ (news_newsOf (hb := hb) (L := L) (h := h)) hl.isList (by omega) (by omega) fun D e1 h' F' N' lt => ?_⟩
  have E : Ext (· = L) h h' := ext_news hn S F' N'
  have ND := N' (D, _) (.head _)
  have hD : h.get? D = none := by
    cases z : h.get? D with
    | none => rfl
    | some o =>
      have hb' : hb.get? D = none := ND.2.2
      exact absurd (lt (D, o) (mem_newsOf.mpr ⟨z, ND.2.1, hb'⟩)) (Nat.lt_irrefl _)
  have hv : ∀ v, v ∈ vs → PairV h' v := fun v hv => by
    obtain ⟨i, hi, rfl⟩ := List.mem_iff_getElem.mp hv
    obtain ⟨a, kk, u, e, ta, kt⟩ := hp i us[i] (List.getElem?_eq_getElem (by omega))
    rw [List.getElem?_eq_getElem hi] at e
    exact ⟨a, kk, _, u, _, Option.some.inj e, ta.to E, kt.tk E.tup⟩
  obtain ⟨fs, kt, kl, kf⟩ := kat_of hv
  refine kat_kind (T := .type "tuple") kt (by omega) (fun v hv => ?_) rfl ?_
  · obtain ⟨t, a, b, c, u, os, ns, rfl, ⟨n, e⟩, _⟩ := kf v hv
    exact (Looks.ld e).andThen .now
  rw [show (Value.type "tuple" != Value.type "tuple") = false from rfl]
  have O : Ord (fun i j => ahead (us.getD i d) (us.getD j d)) us.length := by
    refine ⟨fun i j k _ _ _ => ahead_trans, fun i j hi hj ne => ahead_tot fun e => ne ?_, fun i j _ _ => ahead_asym⟩
    have e1 : us.getD i d = us[i] := by simp [List.getD, hi]
    have e2 : us.getD j d = us[j] := by simp [List.getD, hj]
    rw [e1, e2] at e
    exact nodup_inj nd hi hj e
  rw [hlen]
  refine kok_wp (c := fun i j => ahead (us.getD i d) (us.getD j d)) (n := us.length) (Inv := fun s' => ∃ m', s' = sh g h' m') ?_ ?_ (sort_ok O h2) ⟨_, rfl⟩
  · rintro i j C _ hi hj ⟨m', rfl⟩ hC
    obtain ⟨a1, k1, u1, f1, t1, q1⟩ := hp i us[i] (List.getElem?_eq_getElem hi)
    obtain ⟨a2, k2, u2, f2, t2, q2⟩ := hp j us[j] (List.getElem?_eq_getElem hj)
    have e1 : us.getD i d = us[i] := by simp [List.getD, hi]
    have e2 : us.getD j d = us[j] := by simp [List.getD, hj]
    have v1 : vs.getD i Value.none = .ref a1 := by unfold List.getD; rw [f1]; rfl
    have v2 : vs.getD j Value.none = .ref a2 := by unfold List.getD; rw [f2]; rfl
    have g1 : GoodT us[i] := gd _ (List.getElem_mem hi)
    have g2 : GoodT us[j] := gd _ (List.getElem_mem hj)
    have C' := hC (sh g h' m') ⟨m', rfl⟩
    simp only [e1, e2] at C'
    show wpAny _ _ _ _ _ _
    rw [v1, v2]
    obtain ⟨n1, o1⟩ := t1.to E
    obtain ⟨n2, o2⟩ := t2.to E
    have q1' := q1.tk E.tup
    have q2' := q2.tk E.tup
    refine kat_lt (s := sh g h' m') o1 rfl o2 rfl ?_
    refine kat_cons ?_
    refine (KeyAt.eqat (s := sh g h' m') (A := A.in1.in1) (q := decide (i = j)) q1' q2' g1 g2 (by show A.units + 1 + 1 + 64 < _; omega) (decide_eq_true_iff.trans ⟨fun e => by subst e; rfl, nodup_inj nd hi hj⟩)) _ _ _ _ ?_
    refine kat_go (fun e => kat_yes ?_) fun e => kat_no ?_
    · have ij := of_decide_eq_true e
      subst ij
      refine kat_cons (wpAny_eqBool_int ?_)
      rw [show ((i : Int) == (i : Int)) = true by simp]
      refine kat_yes (kat_nil ?_)
      have : ahead us[i] us[i] = false := by
        cases z : ahead us[i] us[i] with
        | false => rfl
        | true => have := ahead_asym z; rw [z] at this; cases this
      rw [this] at C'
      exact C'
    · refine kat_one _ _ ?_
      refine (KeyAt.ltat (s := sh g h' m') (A := A.in1.in1) q1' q2' g1 g2 (by show A.units + 1 + 1 + 80 < _; omega)) _ _ _ _ ?_
      exact C'
  · rintro p _ ⟨pn, as⟩ ⟨m', rfl⟩
    refine KasFin.intro (news := (D, seqObj "list" #[] e1) :: newsOf hb L h) (g := fun o' => (D, o') :: newsOf hb L h) F' N' (.head fun p hp => ?_) fun h'' c F'' N'' => ?_
    · exact Nat.ne_of_lt (lt p hp)
    · refine ⟨h'', m', rfl, k h'' D p (ext_news hn S F'' N'') F''.ns hD pn as ⟨c, (N'' _ (.head _)).1⟩⟩
end
end Mine

end

section
open PySem PySem.W PySem.Calls PyProof.Rows
namespace Mine
theorem mem_of_lookup {α β : Type} [BEq α] [LawfulBEq α] {a : α} {b : β} : ∀ {l : List (α × β)}, l.lookup a = some b → (a, b) ∈ l
  | (x, y) :: l, h => by
    by_cases q : a = x
    · subst q
      simp at h
      subst h
      exact .head _
    · rw [List.lookup_cons, show (a == x) = false from by simpa using q] at h
      exact .tail _ (mem_of_lookup h)
section
variable {prog : Program} {w : World} {g : Shared} {hb : Heap} {A : Around} {h : Heap} {env : Env}

/-- call_defC, with the place of the locals -/
theorem call_defL {k : Nat} {name qual : Str} {params : Arguments} {body : List Stmt} {scope : Scope} {dV kV doc pm cdv ct oc : Value} {an od : Option Addr} {osl : Array (Option Value)} {f : Addr}
    {args : List Value} (binds : List (Str × Value)) {Q : Value → Heap → Prop}
    (B : Base w hb) (S : St hb h) (R : Rm A (k + 1))
    (ho : (KK w).lookup f = some ⟨oc, od, .func (fnOf name qual params body scope dV kV doc pm an cdv ct), osl⟩) (hcd : codeIn (KK w) cdv qual = true)
    (hbind : bindArgs (fnOf name qual params body scope dV kV doc pm an cdv ct) ⟨args, []⟩ = pure binds)
    (hkind : (binds.all fun y => scope.names.lookup y.1 == some .local || scope.names.lookup y.1 == some .cell) = true)
    (hco : scope.isCoroutine = false) (hgen : scope.isGenerator = false) (hk : scope.kind = .function)
    (H : ∀ h₁ L, Ext None h h₁ → St hb h₁ → Rm (A.deeper (envOfC qual scope L f cdv)) k → h.get? L = none → h.objs.size ≤ L → (∀ n c, (n, c) ∈ cellsFrom (L + 1) scope.names [] → h.get? c = none) →
      h₁.Ns L (bindL (envOfC qual scope L f cdv).kindOf binds fun _ => none) → (∀ n c, (cellsFrom (L + 1) scope.names []).lookup n = some c → h₁.IsCell c (bindC (envOfC qual scope L f cdv).kindOf binds (fun _ => none) n)) →
      W prog w g (A.deeper (envOfC qual scope L f cdv)) (execs body (envOfC qual scope L f cdv)) (fun fl h' => Q (match fl with | .ret v => v | _ => .none) h') h₁) :
    W prog w g A (call (.ref f) args []) Q h := by
  obtain ⟨p, loose, mg, mb, T⟩ := B.T
  refine ⟨fun n => wpAny_call (codeAny_call_cells (fd := fnOf name qual params body scope dV kV doc pm an cdv ct) (body := body) (binds := binds) (by have := R.depth; omega) (S.K B _ _ ho) rfl (T.nolimit.keeps S)
    (codeRec_of (S.K B) hcd) rfl hbind rfl (kindsX hkind _) (fun s₁ hc => ?_) hco hgen hk)⟩
  obtain ⟨h₀, m, rfl⟩ : ∃ h₀ m, s₁ = sh g h₀ m := by
    obtain ⟨h₀, m, e⟩ := hc.toInCall.same
    exact ⟨h₀, m, e⟩
  have e : Ext None h h₀ := Ext.grown hc.toInCall.keep
  refine (H h₀ h.objs.size e (S.to e) R.deeper (size_none _) (Nat.le_refl _) (fun n c hm => ?_) hc.toInCall.ns fun n c q => hc.cell n c q).then fun _ _ _ x => .mk x
  have hl : h.objs.size < c := hc.above n c hm
  cases q : h.get? c with
  | none => rfl
  | some o => exact absurd (Nat.lt_trans (Heap.lt_size q) hl) (Nat.lt_irrefl _)

/-- two names, the second in a cell -/
theorem as_pairC {x y : Str} {px py : Pos} {kd : Nat} {tpos pos : Pos} {value : Expr} {c : Addr} {Q : Flow → Heap → Prop} (hh : A.handled = none) (hcl : env.cells.lookup y = some c)
    (k : W prog w g A (eval value env) (fun v h₁ => ∃ t a b m v₀, v = .ref t ∧ TupAt h₁ t [a, b] ∧ h₁.Ns env.locals m ∧ h₁.IsCell c v₀ ∧ c ≠ env.locals ∧
      ∀ h₂, Ext (fun z => z = env.locals ∨ z = c) h₁ h₂ → h₂.Ns env.locals (fun z => if z = x then some a else m z) → h₂.IsCell c (some b) → Q .next h₂) h)
    (hs : swapsWithSole [.Tuple [.Name x px, .Name y py] kd tpos] value pos.line env = pure false := by rfl)
    (hw : swappedStores [.Tuple [.Name x px, .Name y py] kd tpos] value env = pure none := by rfl)
    (hk : env.scope.kind = .function := by rfl) (hx : env.kindOf x = some .local := by rfl) (hy : env.kindOf y = some .cell := by rfl) :
    W prog w g A (exec (.Assign [.Tuple [.Name x px, .Name y py] kd tpos] value pos) env) Q h := by
  refine ⟨fun n => Assign_Tuple (k.then fun v h₁ m h₁' => ?_) hs hw⟩
  obtain ⟨t, a, b, mm, v₀, rfl, ht, hn, hc, hne, hQ⟩ := h₁'
  refine W.then (R := fun _ => Post g Q .next) (Q := fun _ => Q .next) (asg_tup hh ht rfl fun h₂ e₂ => ?_) fun _ _ _ x => .mk x
  exact aio_cons <| asg_local (ns_to hn e₂) (fun h₃ e₃ n₃ => aio_cons <| asg_cell hcl (cell_to (cell_to hc e₂) e₃ hne) (fun h₄ e₄ c₄ => aio_nil (hQ h₄ (e₂.of.trans ((e₃.mono fun _ => .inl).trans (e₄.mono fun _ => .inr))) (ns_to n₃ e₄ hne.symm) c₄)) hk hy) hk hx
theorem e_dictN {K : Type} [DecidableEq K] (knd : KeyKind prog w K) {keys : List (Option Expr)} {values : List Expr} {pos : Pos} {Q : Value → Heap → Prop} (B : Base w hb) (S : St hb h) (pairs : List (Sem Value × Sem Value))
    (hshape : (evalEachOpt keys env).zip ((evalEach values env).map fun v => do let x ← v; standAt pos; pure x) = pairs.map fun p => (some p.1, p.2)) (h0 : pairs ≠ []) (hlen : pairs.length ≤ 15)
    (k : ∀ h₀ d, Ext None h h₀ → h.get? d = none → h₀.get? d ≠ none → W prog w g A (evalPairs pairs) (fun vs h₁ => Ext None h₀ h₁ ∧ ∃ kvs, Carries knd vs kvs ∧ ∀ h₂, Ext (· = d) h₁ h₂ → h₂.DictOf knd d (merged [] kvs) → Q (.ref d) h₂) h₀) :
    W prog w g A (eval (.Dict keys values pos) env) Q h := by
  obtain ⟨p, loose, mg, mb, T⟩ := B.T
  have low := modules_low (T.nolimit.keeps S)
  refine ⟨fun n => wpAny_Dict_pairs (knd := knd) (s := sh g h n) hshape h0 hlen ((k _ _ Ext.push (size_none _) (by rw [Heap.get?_push_size _ rfl]; exact nofun)).then fun vs h₁ m q => ?_)⟩
  obtain ⟨e, kvs, hc, q⟩ := q
  have o1 : h₁.get? h.objs.size = some { cls := .type "dict", data := .dict #[] } := e.keep _ _ id (Heap.get?_push_size _ rfl)
  refine ⟨kvs, hc, ⟨_, #[], _, o1, ⟨rfl, rfl, rfl⟩, rfl, by intro e he; simp at he, .nil, .nil⟩, fun h' hm hs => .mk (q h' ?_ hm)⟩
  obtain ⟨o', _, _, p', _⟩ := id hm
  exact Ext.upd hs o1 (fun vs n q => by have := congrArg Obj.cls q; simp at this) p'
theorem q_consS {a b : Sem Value} {pos : Pos} {rest : List (Sem Value × Sem Value)} {Q : List (Value × Value) → Heap → Prop} (k : W prog w g A a (fun a h₁ => W prog w g A b (fun b h₂ => W prog w g A (evalPairs rest) (fun vs h₃ => Q ((a, b) :: vs) h₃) h₂) h₁) h) :
    W prog w g A (evalPairs ((a, do let x ← b; standAt pos; pure x) :: rest)) Q h :=
  ⟨fun n => evalPairs_cons (k.then fun a h₁ _ k => wpAny_bind (k.then fun b h₂ _ k => wpAny_bind (wpAny_standAt (wpAny_pure (k.then fun vs h₃ _ k => .mk k)))))⟩
theorem fresh_str {x : Str} {Q : Value → Heap → Prop} (k : ∀ u, Q (.str x u) h) : W prog w g A (do let u ← fresh; pure (Value.str x u)) Q h := ⟨fun n => wpAny_bind (wpAny_fresh (wpAny_pure (⟨h, n + 1, rfl, k _⟩)))⟩
theorem isl_to {sc : Addr} {items : Array Value} {hb h : Heap} (x : hb.IsList sc items) (S : St hb h) : h.IsList sc items := let ⟨o, e, r⟩ := x; ⟨o, S _ _ e, r⟩
theorem t_isl_upto {value slice : Expr} {l sl : Addr} {vs : List Value} {i : Nat} {u : Tok} {Q : Value → Heap → Prop} (hl : h.IsList l vs.toArray) (hs : SlAt h sl .none (.int i u) .none) (hz : vs.length ≤ 9000)
    (k : ∀ h₁ a, Ext None h h₁ → h.get? a = none → LstAt h₁ a (vs.take i) → Q (.ref a) h₁)
    (hsu : subscripted slice false (.ref l) (.ref sl) = operate [.ref sl, .ref l] (getItem (.ref l) (.ref sl)) := by with_unfolding_all rfl) :
    W prog w g A (subscriptTail value slice (.ref l) (.ref sl)) Q h :=
  ⟨fun n => tail_any (s := sh g h n) hl.typeIs slot_list_getitem.lookup (wpAny_getItem_list_slice (s := sh g h n) hl hs.is .none (.int _ _) .none (by simp)
    (.mk (k _ _ Ext.push (size_none _) ⟨0, by rw [slicePick_upto', ]; simpa using Heap.get?_push_size _ rfl⟩)) (by simp [sizeLine_eq]; omega)) hsu⟩
theorem c_list_lst {l : Addr} {vs : List Value} {Q : Value → Heap → Prop} (hl : LstAt h l vs) (hz : vs.length ≤ 9000) (k : ∀ h₁ a, Ext None h h₁ → h.get? a = none → LstAt h₁ a vs → Q (.ref a) h₁) : W prog w g A (call (.type "list") [.ref l]) Q h := by
  obtain ⟨n, e⟩ := hl
  exact ⟨fun m => call_list_seq (s := sh g h m) l (.inl rfl) e rfl rfl (fun h' c' keep ho => .mk (k h' _ (.grown keep) (size_none _) ⟨c', ho⟩)) (by simp [sizeLine_eq]; omega)⟩
end

/-- all that the law holds behind its numbers; h₁ the heap at its start -/
structure LS (prog : Program) (w : World) (hb h₁ : Heap) (L : Addr) (b : Bk) (ts us : List T) (ns : List Nat) (f l sa na : Addr) (sv nv : List Value) (i : Nat) (h : Heap) : Prop where
  S : St hb h
  feed : FeedAt prog w h f l i
  bank : BankAt prog w h b ts
  lsm : LstAt h sa sv
  terms : All2 (TermAt h) us sv
  lnm : LstAt h na nv
  nats : All2 NatIs ns nv
  num : All2 (Num ts) us ns
  c1 : h.IsCell (L + 1) (some (.ref b.x))
  old : ∀ a, hb.get? a ≠ none ∨ a = L ∨ a = L + 1 ∨ a = L + 2 → h₁.get? a ≠ none
  nf : h₁.get? f = none
  nl : h₁.get? l = none
  nb : ∀ a, b.all a → h₁.get? a = none
  ns_ : h₁.get? sa = none
  nn : h₁.get? na = none
  fb : ∀ a, b.all a → a ≠ f
  fs : sa ≠ f
  fn : na ≠ f
section
variable {prog : Program} {w : World} {hb h₁ : Heap} {L : Addr} {b : Bk} {ts us : List T} {ns : List Nat} {f l sa na : Addr} {sv nv : List Value} {i : Nat} {h h' : Heap}
theorem LS.fresh (x : LS prog w hb h₁ L b ts us ns f l sa na sv nv i h) {a : Addr} (n : h₁.get? a = none) : hb.get? a = none := by
  cases q : hb.get? a with
  | none => rfl
  | some o => exact absurd n (x.old a (.inl (by rw [q]; exact nofun)))
theorem LS.to {Y : Addr → Prop} (x : LS prog w hb h₁ L b ts us ns f l sa na sv nv i h) (e : Ext Y h h') (k : ∀ a, Y a → h₁.get? a ≠ none ∧ a ≠ L + 1 ∧ hb.get? a = none) : LS prog w hb h₁ L b ts us ns f l sa na sv nv i h' := by
  have n : ∀ {a}, h₁.get? a = none → ¬ Y a := fun q y => (k _ y).1 q
  exact { x with
    S := x.S.to e fun a y => (k a y).2.2
    feed := x.feed.to e (n x.nf) (n x.nl)
    bank := x.bank.to e fun a q => n (x.nb a q)
    lsm := x.lsm.to e (n x.ns_)
    terms := terms_to x.terms e
    lnm := x.lnm.to e (n x.nn)
    c1 := cell_to x.c1 e fun y => (k _ y).2.1 rfl }
theorem LS.more (x : LS prog w hb h₁ L b ts us ns f l sa na sv nv i h) (e : Ext None h h') : LS prog w hb h₁ L b ts us ns f l sa na sv nv i h' := x.to e fun _ q => q.elim
theorem LS.loc (x : LS prog w hb h₁ L b ts us ns f l sa na sv nv i h) (hL : hb.get? L = none) (e : Ext (· = L) h h') : LS prog w hb h₁ L b ts us ns f l sa na sv nv i h' :=
  x.to e (by rintro a rfl; exact ⟨x.old _ (.inr (.inl rfl)), (Nat.succ_ne_self _).symm, hL⟩)
theorem LS.draw {j : Nat} (x : LS prog w hb h₁ L b ts us ns f l sa na sv nv i h) (e : Ext (· = f) h h') (q : FeedAt prog w h' f l j) : LS prog w hb h₁ L b ts us ns f l sa na sv nv j h' :=
  { x with
    S := x.S.to e (by rintro a rfl; exact x.fresh x.nf)
    feed := q
    bank := x.bank.to e x.fb
    lsm := x.lsm.to e x.fs
    terms := terms_to x.terms e
    lnm := x.lnm.to e x.fn
    c1 := cell_to x.c1 e fun y => x.old (L + 1) (.inr (.inr (.inl rfl))) (y ▸ x.nf) }
theorem FeedAt.step {Y : Addr → Prop} {h₀ : Heap} {j : Nat} (x : FeedAt prog w h f l j) (s : Step Y h₀ h h') (of : h₀.get? f ≠ none) (ol : h₀.get? l ≠ none) (nf : ¬ Y f) (nl : ¬ Y l) : FeedAt prog w h' f l j :=
  ⟨let ⟨tk, d⟩ := x.dict; ⟨tk, d.at fun _ q => s.keep _ _ of nf q⟩, let ⟨vs, ⟨n, p⟩, r⟩ := x.list; ⟨vs, ⟨n, s.keep _ _ ol nl p⟩, r⟩⟩
theorem LS.draws {j : Nat} (x : LS prog w hb h₁ L b ts us ns f l sa na sv nv i h) (hL : hb.get? L = none) (e : Ext (fun a => a = L ∨ a = f) h h') (q : FeedAt prog w h' f l j) : LS prog w hb h₁ L b ts us ns f l sa na sv nv j h' := by
  have n : ∀ {a}, h₁.get? a = none → a ≠ f → ¬ (a = L ∨ a = f) := fun q r y => y.elim (fun z => x.old L (.inr (.inl rfl)) (z ▸ q)) r
  exact { x with
    S := x.S.to e (by
      rintro a (rfl | rfl)
      · exact hL
      · exact x.fresh x.nf)
    feed := q
    bank := x.bank.to e fun a q => n (x.nb a q) (x.fb a q)
    lsm := x.lsm.to e (n x.ns_ x.fs)
    terms := terms_to x.terms e
    lnm := x.lnm.to e (n x.nn x.fn)
    c1 := cell_to x.c1 e fun y => y.elim (Nat.succ_ne_self _) fun y => x.old (L + 1) (.inr (.inr (.inl rfl))) (y ▸ x.nf) }
theorem LS.at (x : LS prog w hb h₁ L b ts us ns f l sa na sv nv i h) {k : Nat} {t : T} (hk : us[k]? = some t) : ∃ n v, ns[k]? = some n ∧ ts[n]? = some t ∧ sv[k]? = some v ∧ TermAt h t v := by
  obtain ⟨n, e, q⟩ := x.num.get' hk
  obtain ⟨v, e', q'⟩ := x.terms.get' hk
  exact ⟨n, v, e, q, e', q'⟩
end
end Mine

end

section
open PySem PySem.W PySem.Calls PyProof.Rows
namespace Mine
theorem nat_ne2 (n : Nat) : n + 2 ≠ n := by omega
theorem nat_ne12 (n : Nat) : n + 2 ≠ n + 1 := by omega
theorem lawish {prog : Program} {w : World} {g : Shared} {hb : Heap} {A : Around} {sc : Addr} {vs : List Value} {ns : List Int} (B : Base w hb) (R : Rm A 40) (hl : hb.IsList sc vs.toArray) (hi : IntsAre vs ns) (h63 : ns.length ≤ 63) :
   W prog w g A (call (.ref 235) [.ref sc] []) (fun v h' => v = .bool true ∧ Ext None hb h') hb := by
  have S : St hb hb := fun _ _ e => e
  have done : ∀ {h}, St hb h → Ext None hb h := fun s => ⟨fun b o e => ⟨o, s b o e⟩, fun b o _ e => s b o e, fun b vs n e => s b _ e⟩
  have hvl : vs.length ≤ 63 := by have := (all2_of hi).length; omega
  refine call_defL (k := 39) [("script", .ref sc)] B S R rfl rfl rfl rfl rfl rfl rfl fun h₁ L e₁ S₁ R₁ hL hsz hC hn₁ hc₁ => ?_
  have hc1 : hb.get? (L + 1) = none := hC "bank" (L + 1) (mem_of_lookup rfl)
  have hc2 : hb.get? (L + 2) = none := hC "keys" (L + 2) (mem_of_lookup rfl)
  have cb₁ : h₁.IsCell (L + 1) none := hc₁ "bank" (L + 1) rfl
  have ck₁ : h₁.IsCell (L + 2) none := hc₁ "keys" (L + 2) rfl
  have sl₁ := isl_to hl S₁
  have l1 : L + 1 ≠ L := Nat.succ_ne_self _
  have l2 : L + 2 ≠ L := nat_ne2 L
  have l12 : L + 2 ≠ L + 1 := nat_ne12 L
  -- feed = {'cells': list(script[:40]), 'spot': 0}
  refine W.hideL ?_
  intro K
  refine x_cons ?_
  refine W.hideL ?_
  intro K
  refine x_assign <| e_dictN (strKind prog w) B S₁ [(_, _), (_, _)] rfl (List.cons_ne_nil _ _) (Nat.le_of_ble_eq_true rfl) fun h₂ f e₂ nf ff => ?_
  refine q_consS <| fresh_str fun _ => c_bi B (S₁.to e₂) n_list <| i_cons <| e_sub <| e_local (ns_to hn₁ e₂) rfl <| e_slice <| p_none <| p_some <| e_int fun _ => p_none fun h₃ sl e₃ nsl hsl => ?_
  refine t_isl_upto (i := 40) (isl_to hl ((S₁.to e₂).to e₃)) hsl (by omega) fun h₄ l₀ e₄ nl₀ ll₀ => i_nil ⟨((S₁.to e₂).to e₃).to e₄, c_list_lst ll₀ (by rw [List.length_take]; omega) fun h₅ l e₅ nl ll => ?_⟩
  have e25 : Ext None h₂ h₅ := (e₃.trans e₄).trans e₅
  refine q_consS <| fresh_str fun _ => e_int fun t0 => q_nil ⟨e25, [("cells", .ref l), ("spot", .int 0 t0)], ⟨strKind_is _ _ _ _, rfl, strKind_is _ _ _ _, rfl, trivial⟩, fun h₆ e₆ d₆ => ?_⟩
  have fL : f ≠ L := (ne_new (ns_some hn₁) nf).symm
  have n₆ := ns_to (ns_to (ns_to hn₁ e₂) e25) e₆ fL.symm
  have lf : l ≠ f := (ne_new (a := f) (by
    cases q : h₂.get? f with
    | none => exact absurd q ff
    | some o => rw [(e₃.trans e₄).keep _ _ id q]; exact nofun) nl).symm
  have ll₆ := ll.to e₆ lf
  refine st_local n₆ fun h₇ e₇ n₇ => ?_
  have f₇ : FeedAt prog w h₇ f l 0 := ⟨⟨t0, dict_to d₆ e₇ fL⟩, _, ll₆.to e₇ (ne_new (ns_some (ns_to (ns_to hn₁ e₂) (e₃.trans e₄))) nl).symm, fun v hv => ?_, by rw [List.length_take]; omega⟩
  case refine_1 =>
    obtain ⟨i, hi'⟩ := List.mem_iff_getElem?.mp (List.mem_of_mem_take hv)
    obtain ⟨n, _, u, rfl⟩ := (all2_of hi).get hi'
    exact ⟨n, u, rfl⟩
  have nl₁ : h₁.get? l = none := (e₂.trans (e₃.trans e₄)).new nl
  have E₇ : Ext (fun a => a = f ∨ a = L) h₁ h₇ := ((e₂.trans e25).of.trans (e₆.mono fun _ => .inl)).trans (e₇.mono fun _ => .inr)
  have hbf : hb.get? f = none := e₁.new nf
  have S₇ : St hb h₇ := S₁.to E₇ (by rintro a (rfl | rfl); exact hbf; exact hL)
  have cb₇ := cell_to cb₁ E₇ (by rintro (q | q); exact (ne_new (cell_some cb₁) nf) q; exact l1 q)
  have ck₇ := cell_to ck₁ E₇ (by rintro (q | q); exact (ne_new (cell_some ck₁) nf) q; exact l2 q)
  -- some, bank = (_law_terms(feed), Bank())
  refine W.hideL ?_
  intro K
  refine x_cons ?_
  refine W.hideL ?_
  intro K
  refine as_pairC R₁.hh rfl <| e_tup <| i_cons <| c_glob B S₇ n_terms <| i_cons <| e_local n₇ rfl <| i_nil ⟨S₇, terms_ok B S₇ (R₁.mono (by omega)) f₇ hbf (by omega) fun h₈ sa us sv i e₈ f₈ hi8 nsa lsa asv TT => ?_⟩
  have S₈ : St hb h₈ := S₇.to e₈ (by rintro a rfl; exact hbf)
  refine i_cons <| c_glob B S₈ n_Bank <| i_nil ⟨S₈, new_ok B S₈ (R₁.mono (by omega)) fun h₉ b e₉ nb bk₉ => i_nil ⟨Nat.le_of_ble_eq_true rfl, fun h₁₀ tp e₁₀ _ ttp => ?_⟩⟩
  have n₁₀ := ns_to (ns_to (ns_to n₇ e₈ fL.symm) e₉) e₁₀
  have cb₁₀ := cell_to (cell_to (cell_to cb₇ e₈ (ne_new (cell_some cb₁) nf)) e₉) e₁₀
  have ck₁₀ := cell_to (cell_to (cell_to ck₇ e₈ (ne_new (cell_some ck₁) nf)) e₉) e₁₀
  refine ⟨tp, _, _, _, _, rfl, ttp, n₁₀, cb₁₀, l1, fun h₁₁ e₁₁ n₁₁ cb₁₁ => ?_⟩
  have E8 : Ext (fun a => a = f ∨ a = L) h₁ h₈ := E₇.trans (e₈.mono fun _ => .inl)
  have nsa1 : h₁.get? sa = none := E₇.new nsa
  have nb1 : ∀ a, b.all a → h₁.get? a = none := fun a q => E8.new (nb a q)
  have old1 : ∀ a, hb.get? a ≠ none ∨ a = L ∨ a = L + 1 ∨ a = L + 2 → h₁.get? a ≠ none := by
    rintro a (q | rfl | rfl | rfl)
    · exact fun z => q (e₁.new z)
    · exact ns_some hn₁
    · exact cell_some cb₁
    · exact cell_some ck₁
  have low : ∀ a, a = L ∨ a = L + 1 → h₁.get? a ≠ none := by
    rintro a (rfl | rfl)
    · exact ns_some hn₁
    · exact cell_some cb₁
  have up : ∀ {a}, h₁.get? a = none → ¬ (a = L ∨ a = L + 1) := fun q r => low _ r q
  have e911 : Ext (fun a => a = L ∨ a = L + 1) h₉ h₁₁ := e₁₀.of.trans e₁₁
  have e811 : Ext (fun a => a = L ∨ a = L + 1) h₈ h₁₁ := e₉.of.trans e911
  have f₁₁ := f₈.to e811 (up nf) (up nl₁)
  have lsa₁₁ := lsa.to e811 (up nsa1)
  have bk₁₁ := bk₉.to e911 fun a q => up (nb1 a q)
  have asv₁₁ := terms_to asv e811
  have ck₁₁ := cell_to ck₁₀ e₁₁ (by rintro (q | q); exact l2 q; exact l12 q)
  have S₁₁ : St hb h₁₁ := S₈.to e811 (by rintro a (rfl | rfl); exact hL; exact hc1)
  have saf : sa ≠ f := (ne_new (dict_some f₇.dict.choose_spec) nsa).symm
  have bf : ∀ a, b.all a → a ≠ f := fun a q => (ne_new (dict_some f₈.dict.choose_spec) (nb a q)).symm
  have bsa : ∀ a, b.all a → a ≠ sa := fun a q => (ne_new lsa.some (nb a q)).symm
  have hbb : ∀ a, b.all a → hb.get? a = none := fun a q => e₁.new (nb1 a q)
  have bL : ∀ a, b.all a → a ≠ L := fun a q r => up (nb1 a q) (.inl r)
  have lsv : sv.length ≤ 27 := by rw [← asv.length]; exact TT.hi
  have old : ∀ a, b.all a → h₁₁.get? a ≠ none := bk₁₁.some
  have sa11 : h₁₁.get? sa ≠ none := lsa₁₁.some
  -- numbers = [bank.put(one) for one in some]
  refine W.hideL ?_
  intro K
  refine x_cons ?_
  refine W.hideL ?_
  intro K
  refine x_compJ [("bank", L + 1)] rfl rfl (by decide) rfl (by decide) <| e_local n₁₁ rfl <| src_list R₁.hh lsa₁₁ fun h₁₂ it Sr e₁₂ X s0 => ?_
  refine ⟨it, _, _, Sr, _, _, rfl, X, s0, e₁₂, by omega, n₁₁, fun i ys h' => ∃ ts ns, Ext (fun a => a = L ∨ b.mut a) h₁₁ h' ∧ BankAt prog w h' b ts ∧ ts.length ≤ 39 * i ∧ All2 (Num ts) (us.take i) ns ∧ All2 NatIs ns ys,
    ⟨[], [], .refl, bk₁₁, Nat.zero_le _, .nil, .nil⟩, ?_, ?_, ?_⟩
  · rintro i ys h h' ⟨ts, ns, e, bk, a1, a2, a3⟩ s
    exact ⟨ts, ns, e.step (s.mono fun _ => .inl), bk.step s old bL, a1, a2, a3⟩
  · rintro i v ys h' C mC hi hv ⟨ts, ns, e, bk', a1, a2, a3⟩ hl nsC nC nL
    obtain ⟨t, ht, tt⟩ := asv₁₁.get hv
    have tm : t ∈ us := List.mem_of_getElem? ht
    have hd := TT.deep t tm
    have hsz := TT.size t tm
    have i27 : i < 27 := by omega
    refine asg_local nsC fun h₅ e₅ n₅ => ?_
    have bC : ∀ a, b.all a → ¬ (a = C) := fun a q r => old a q (r ▸ nC)
    have bk₅ := bk'.to e₅ bC
    have c₅ : h₅.IsCell (L + 1) (some (.ref b.x)) := cell_to (cell_to cb₁₁ e (by
      rintro (q | q)
      · exact l1 q
      · exact up (nb1 _ (Bk.mut_all q)) (.inr rfl))) e₅ (by rintro rfl; exact cell_some cb₁₁ nC)
    have S₅ : St hb h₅ := (S₁₁.to e (by
      rintro a (rfl | q)
      · exact hL
      · exact hbb a (Bk.mut_all q))).to e₅ (by rintro a rfl; exact S₁₁.none nC)
    refine m_bank B f_put rfl (fun _ _ _ _ _ _ _ _ _ _ _ _ => rfl) <| e_cell rfl c₅ ⟨b.x, b.dx, b.nd, b.nm, b.wt, b.dp, rfl, S₅, bk₅.obj, i_cons <| e_local n₅ rfl <| i_nil ⟨S₅, ?_⟩⟩
    refine put_ok B S₅ (R₁.mono (by omega)) bk₅ hbb ((tt.to e).to e₅) (TT.good t tm) (by omega) (by omega) (by omega) fun h₆ n u us' e₆ bk₆ hn hul => ?_
    refine ⟨⟨fun a => a = C ∨ b.mut a, (e₅.mono fun _ => .inl).trans (e₆.mono fun _ => .inr), ?_⟩, ⟨_, ns_to n₅ e₆ fun q => bC _ (Bk.mut_all q) rfl⟩, ts ++ us', ns ++ [n], ?_, bk₆, ?_, ?_, ?_⟩
    · rintro a (q | q)
      · exact .inl q
      · exact .inr ⟨old a (Bk.mut_all q), bsa a (Bk.mut_all q), bL a (Bk.mut_all q)⟩
    · refine (e.trans' e₅ ?_).trans (e₆.mono fun _ => .inr)
      rintro a rfl
      exact .inr nC
    · rw [List.length_append]; omega
    · rw [take_snoc ht]
      exact (a2.imp fun _ _ => Num.more).snoc hn
    · exact a3.snoc ⟨u, rfl⟩
  rintro nv na h₁₃ ⟨ts, ns', e₁₃, bk₁₃, a1, a2, a3⟩ hyl lna nna n₁₃
  have emut : ∀ {a}, h₁.get? a = none → (∀ c, b.all c → c ≠ a) → ¬ (a = L ∨ b.mut a) := by
    rintro a q r (z | z)
    · exact up q (.inl z)
    · exact r _ (Bk.mut_all z) rfl
  have fne : f ≠ na := (ne_new (dict_some f₁₁.dict.choose_spec) nna)
  have lb : ∀ c, b.all c → c ≠ l := fun c q r => by
    obtain ⟨_, p, _⟩ := f₈.list
    exact (ne_new p.some (nb c q)) r.symm
  have c13 : h₁₃.IsCell (L + 1) (some (.ref b.x)) := cell_to cb₁₁ e₁₃ (by
      rintro (q | q)
      · exact l1 q
      · exact up (nb1 _ (Bk.mut_all q)) (.inr rfl))
  have ck₁₃ : h₁₃.IsCell (L + 2) none := cell_to ck₁₁ e₁₃ (by
      rintro (q | q)
      · exact l2 q
      · exact old1 _ (.inr (.inr (.inr rfl))) (nb1 _ (Bk.mut_all q)))
  have na1 : h₁.get? na = none := E8.new (e811.new nna)
  have usl : us.take sv.length = us := List.take_of_length_le (by rw [asv.length]; exact Nat.le_refl _)
  rw [usl] at a2
  have tsl : ts.length ≤ 1053 := by omega
  have x₁₃ : LS prog w hb h₁ L b ts us ns' f l sa na sv nv i h₁₃ :=
    { S := S₁₁.to e₁₃ (by
        rintro a (rfl | q)
        · exact hL
        · exact hbb a (Bk.mut_all q))
      feed := f₁₁.to e₁₃ (emut nf bf) (emut nl₁ lb), bank := bk₁₃, lsm := lsa₁₁.to e₁₃ (emut nsa1 bsa), terms := terms_to asv₁₁ e₁₃, lnm := lna, nats := a3, num := a2, c1 := c13, old := old1
      nf := nf, nl := nl₁, nb := nb1, ns_ := nsa1, nn := na1, fb := bf, fs := saf, fn := fne.symm }
  have nvl : nv.length ≤ 27 := by rw [hyl]; omega
  have E13 : Ext (fun _ => True) h₁ h₁₃ := ((E8.mono fun _ _ => trivial).trans (e811.mono fun _ _ => trivial)).trans (e₁₃.mono fun _ _ => trivial)
  clear emut up low e911 e811 e₈ e₉ e₁₀ e₁₁ e₁₂ E8 E₇ e₁₃ cb₁₁ bk₁₁ lsa₁₁ asv₁₁ ck₁₁ S₁₁ f₁₁ bk₁₃ c13 lna a3 a2
  have hc : ∀ {t}, t ∈ us → t.size ≤ 39 ∧ t.deep ≤ 7 ∧ GoodT t := fun q => ⟨TT.size _ q, TT.deep _ q, TT.good _ q⟩
  -- keys = [key_of(bank.term(n)) for n in numbers]
  refine W.hideL ?_
  intro K
  refine x_cons ?_
  refine W.hideL ?_
  intro K
  refine x_assign <| e_compJ [("bank", L + 1)] rfl (by decide) rfl (by decide) <| e_local n₁₃ rfl <| src_list R₁.hh x₁₃.lnm fun h₁₄ it Sr e₁₄ X s0 => ?_
  refine ⟨it, _, _, Sr, _, rfl, X, s0, e₁₄, by omega, J2 None h₁₃ KeyAt us, .zero, J2.stab fun _ _ _ _ x k => x.tk k, ?_, ?_⟩
  · rintro i v ys h' C mC hi hv j hl nsC nC
    obtain ⟨n, hn, u, rfl⟩ := x₁₃.nats.get hv
    obtain ⟨t, ht, tn⟩ := x₁₃.num.get hn
    obtain ⟨h39, h7, _⟩ := hc (List.mem_of_getElem? ht)
    refine asg_local nsC fun h₅ e₅ n₅ => ?_
    have x₅ := x₁₃.more (j.1.at e₅ nC)
    refine c_glob B x₅.S n_key_of <| i_cons <| m_bank B f_term rfl (fun _ _ _ _ _ _ _ _ _ _ _ _ => rfl) <| e_cell rfl x₅.c1 ⟨b.x, b.dx, b.nd, b.nm, b.wt, b.dp, rfl, x₅.S, x₅.bank.obj, i_cons <| e_local n₅ rfl <| i_nil ⟨x₅.S, term_ok B x₅.S (R₁.mono (by omega)) x₅.bank (by omega) tn (by omega) fun h₆ v e₆ tv => ?_⟩⟩
    refine i_nil ⟨x₅.S.to e₆, key_ok B (x₅.S.to e₆) (R₁.mono (by omega)) tv (by omega) (by omega) fun h₇ v' e₇ kv => ?_⟩
    exact ⟨⟨(· = C), e₅.trans (e₆.trans e₇).of, fun _ q => .inl q⟩, ⟨_, ns_to n₅ (e₆.trans e₇)⟩, j.snoc (fun _ _ _ _ x k => x.tk k) (e₅.trans (e₆.trans e₇).of) (by rintro b rfl; exact .inr nC) ht kv⟩
  rintro kv ka h₁₅ j₁₅ kyl lka nka
  refine st_cell rfl (cell_to ck₁₃ j₁₅.1) fun h₁₆ e₁₆ ck₁₆ => ?_
  have ak₁₅ := j₁₅.all (by rw [← x₁₃.num.length.trans x₁₃.nats.length]; exact Nat.le_refl _)
  have ka1 : h₁.get? ka = none := E13.new nka
  have ka2 : ka ≠ L + 2 := fun q => x₁₃.old (L + 2) (.inr (.inr (.inr rfl))) (q ▸ ka1)
  have kaf : ka ≠ f := (ne_new (dict_some x₁₃.feed.dict.choose_spec) nka).symm
  have kaL : ka ≠ L := (ne_new (ns_some n₁₃) nka).symm
  have x₁₆ := (x₁₃.more j₁₅.1).to e₁₆ (by rintro a rfl; exact ⟨x₁₃.old _ (.inr (.inr (.inr rfl))), l12, hc2⟩)
  have lka₁₆ := lka.to e₁₆ ka2
  have ak₁₆ : All2 (KeyAt h₁₆) us kv := ak₁₅.imp fun _ _ q => q.tk e₁₆.tup
  have n₁₆ := ns_to (ns_to n₁₃ j₁₅.1) e₁₆ l2.symm
  have lu : us.length = nv.length := x₁₃.num.length.trans x₁₃.nats.length
  have lus : us.length = sv.length := x₁₃.terms.length
  have lkv : us.length = kv.length := ak₁₅.length
  have unit : ∀ {e : Env}, (A.deeper e).units + 100 < cLine := fun {e} => by have := R.units; show A.units + 3 + 100 < _; omega
  clear j₁₅ lka ak₁₅ e₁₆ x₁₃ n₁₃ ck₁₃ E13
  -- if [bank.term(n) for n in numbers] != some: return False
  refine W.hideL ?_
  intro K
  refine x_cons ?_
  refine W.hideL ?_
  intro K
  refine x_if <| b_cmp <| e_compJ [("bank", L + 1)] rfl (by decide) rfl (by decide) <| e_local n₁₆ rfl <| src_list R₁.hh x₁₆.lnm fun h₁₇ it Sr e₁₇ X s0 => ?_
  refine ⟨it, _, _, Sr, _, rfl, X, s0, e₁₇, by omega, J2 None h₁₆ TermAt us, .zero, J2.stab fun _ _ _ _ x k => x.tk k, ?_, ?_⟩
  · rintro i v ys h' C mC hi hv j hl nsC nC
    obtain ⟨n, hn, u, rfl⟩ := x₁₆.nats.get hv
    obtain ⟨t, ht, tn⟩ := x₁₆.num.get hn
    obtain ⟨h39, h7, _⟩ := hc (List.mem_of_getElem? ht)
    refine asg_local nsC fun h₅ e₅ n₅ => ?_
    have x₅ := x₁₆.more (j.1.at e₅ nC)
    refine m_bank B f_term rfl (fun _ _ _ _ _ _ _ _ _ _ _ _ => rfl) <| e_cell rfl x₅.c1 ⟨b.x, b.dx, b.nd, b.nm, b.wt, b.dp, rfl, x₅.S, x₅.bank.obj, i_cons <| e_local n₅ rfl <| i_nil ⟨x₅.S, term_ok B x₅.S (R₁.mono (by omega)) x₅.bank (by omega) tn (by omega) fun h₆ v e₆ tv => ?_⟩⟩
    exact ⟨⟨(· = C), e₅.trans e₆.of, fun _ q => .inl q⟩, ⟨_, ns_to n₅ e₆⟩, j.snoc (fun _ _ _ _ x k => x.tk k) (e₅.trans e₆.of) (by rintro b rfl; exact .inr nC) ht tv⟩
  rintro ws D h₁₈ j₁₈ wl lD nD
  have x₁₈ := x₁₆.more j₁₈.1
  have n₁₈ := ns_to n₁₆ j₁₈.1
  have ck₁₈ := cell_to ck₁₆ j₁₈.1
  have lka₁₈ := lka₁₆.to j₁₈.1
  have ak₁₈ : All2 (KeyAt h₁₈) us kv := ak₁₆.imp fun _ _ q => q.tk j₁₈.1.tup
  refine e_local n₁₈ rfl <| o_ne_terms lD x₁₈.lsm (j₁₈.all (by omega)) x₁₈.terms (fun u hu => ⟨(hc hu).2.2, (hc hu).2.1⟩) (Nat.lt_of_le_of_lt (Nat.add_le_add_left (by decide) _) unit) ⟨false, rfl, ?_⟩
  rw [if_neg Bool.false_ne_true]
  -- if [key[0] for key in keys] != [bank.weight(n) for n in numbers]: return False
  refine x_nil <| x_cons <| x_if <| b_cmp <| e_compJ [] rfl (by decide) rfl (by decide) <| e_cell rfl ck₁₈ <| src_list R₁.hh lka₁₈ fun h₁₇ it Sr e₁₇ X s0 => ?_
  refine ⟨it, _, _, Sr, _, rfl, X, s0, e₁₇, by omega, J2 None h₁₈ (fun _ (t : T) v => NatIs t.size v) us, .zero, J2.stab fun _ _ _ _ x k => x, ?_, ?_⟩
  · rintro i v ys h' C mC hi hv j hl nsC nC
    obtain ⟨t, ht, a, b', c, u, os, nn, rfl, tp, _⟩ := ak₁₈.get hv
    refine asg_local nsC fun h₅ e₅ n₅ => e_sub <| e_local n₅ rfl <| e_int fun _ => t_tup (.int t.size u) ((tp.to j.1).to e₅) (by decide) (by decide) rfl ?_
    exact ⟨⟨(· = C), e₅, fun _ q => .inl q⟩, ⟨_, n₅⟩, j.snoc (fun _ _ _ _ x _ => x) e₅ (by rintro b rfl; exact .inr nC) ht ⟨u, rfl⟩⟩
  rintro ws₁ D₁ h₁₉ j₁₉ wl₁ lD₁ nD₁
  have x₁₉ := x₁₈.more j₁₉.1
  have n₁₉ := ns_to n₁₈ j₁₉.1
  refine e_compJ [("bank", L + 1)] rfl (by decide) rfl (by decide) <| e_local n₁₉ rfl <| src_list R₁.hh x₁₉.lnm fun h₁₇ it Sr e₁₇ X s0 => ?_
  refine ⟨it, _, _, Sr, _, rfl, X, s0, e₁₇, by omega, J2 None h₁₉ (fun _ (t : T) v => NatIs t.size v) us, .zero, J2.stab fun _ _ _ _ x k => x, ?_, ?_⟩
  · rintro i v ys h' C mC hi hv j hl nsC nC
    obtain ⟨n, hn, u, rfl⟩ := x₁₉.nats.get hv
    obtain ⟨t, ht, tn⟩ := x₁₉.num.get hn
    refine asg_local nsC fun h₅ e₅ n₅ => ?_
    have x₅ := x₁₉.more (j.1.at e₅ nC)
    refine m_bank B f_weight rfl (fun _ _ _ _ _ _ _ _ _ _ _ _ => rfl) <| e_cell rfl x₅.c1 ⟨b.x, b.dx, b.nd, b.nm, b.wt, b.dp, rfl, x₅.S, x₅.bank.obj, i_cons <| e_local n₅ rfl <| i_nil ⟨x₅.S, weight_ok B x₅.S (R₁.mono (by omega)) x₅.bank (by omega) tn fun h₆ u' e₆ => ?_⟩⟩
    exact ⟨⟨(· = C), e₅.trans e₆.of, fun _ q => .inl q⟩, ⟨_, ns_to n₅ e₆⟩, j.snoc (fun _ _ _ _ x _ => x) (e₅.trans e₆.of) (by rintro b rfl; exact .inr nC) ht ⟨u', rfl⟩⟩
  rintro ws₂ D₂ h₂₀ j₂₀ wl₂ lD₂ nD₂
  refine o_ne_nats (lD₁.to j₂₀.1) lD₂ (All2.map (f := T.size) (j₁₉.all (by omega))) (All2.map (f := T.size) (j₂₀.all (by omega))) (Nat.lt_of_le_of_lt (Nat.add_le_add_left (by decide) _) unit) ⟨false, rfl, ?_⟩
  rw [if_neg Bool.false_ne_true]
  have x₂₀ := x₁₉.more j₂₀.1
  have n₂₀ := ns_to n₁₉ j₂₀.1
  have e1820 : Ext None h₁₈ h₂₀ := j₁₉.1.trans j₂₀.1
  have ck₂₀ := cell_to ck₁₈ e1820
  have lka₂₀ := lka₁₈.to e1820
  have ak₂₀ : All2 (KeyAt h₂₀) us kv := ak₁₈.imp fun _ _ q => q.tk e1820.tup
  refine x_nil ?_
  clear x₁₈ n₁₈ ck₁₈ lka₁₈ ak₁₈ x₁₉ n₁₉ e1820 j₁₈ j₁₉ j₂₀ lD lD₁ lD₂ x₁₆ n₁₆ lka₁₆ ak₁₆ ck₁₆
  -- row = sorted([(keys[k], k) for k in range(len(some))])
  refine W.hideL ?_
  intro K
  refine x_cons ?_
  refine W.hideL ?_
  intro K
  refine x_assign <| c_bi B x₂₀.S n_sorted <| i_cons <| e_compJ [("keys", L + 2)] rfl (by decide) rfl (by decide) <| c_bi B x₂₀.S n_range <| i_cons <| c_bi B x₂₀.S n_len <| i_cons <| e_local n₂₀ rfl <| i_nil ⟨x₂₀.S, c_len_list x₂₀.lsm (by omega) fun u => i_nil ⟨x₂₀.S, c_range1 fun h₂₁ rg e₂₁ hr => src_range R₁.hh hr (by decide) (by omega) fun h₂₂ it Sr e₂₂ X s0 => ?_⟩⟩
  rw [show ((sv.length : Int) - 0).toNat = sv.length by omega] at X
  have x₂₁ := x₂₀.more e₂₁
  have ck₂₁ := cell_to ck₂₀ e₂₁
  have lka₂₁ := lka₂₀.to e₂₁
  have ak₂₁ : All2 (KeyAt h₂₁) us kv := ak₂₀.imp fun _ _ q => q.tk e₂₁.tup
  have n₂₁ := ns_to n₂₀ e₂₁
  refine ⟨it, _, _, Sr, _, rfl, X, s0, e₂₂, by omega, J2 None h₂₁ (fun h (p : T × Nat) v => ∃ a q u, v = .ref a ∧ TupAt h a [q, .int (p.2 : Int) u] ∧ KeyAt h p.1 q) us.zipIdx, .zero, J2.stab (fun _ _ _ _ ⟨a, q, u, e, p, r⟩ k => ⟨a, q, u, e, p.tk k, r.tk k⟩), ?_, ?_⟩
  · rintro i v ys h' C mC hi ⟨tv, rfl⟩ j hl nsC nC
    rw [show (0 : Int) + (i : Int) = i by omega]
    have hiu : i < us.length := by omega
    obtain ⟨q, hq, kq⟩ := ak₂₁.get' (List.getElem?_eq_getElem hiu)
    refine asg_local nsC fun h₅ e₅ n₅ => ?_
    have E₅ := j.1.at e₅ nC
    refine e_tup <| i_cons <| e_sub <| e_cell rfl (cell_to ck₂₁ E₅) <| e_local n₅ rfl <| t_list q (lka₂₁.to E₅) (by omega) (by omega) (by simpa using hq) <| i_cons <| e_local n₅ rfl <| i_nil ⟨Nat.le_of_ble_eq_true rfl, fun h₆ p e₆ _ tp => ?_⟩
    exact ⟨⟨(· = C), e₅.trans e₆.of, fun _ q => .inl q⟩, ⟨_, ns_to n₅ e₆⟩, j.snoc (x := (us[i], i)) (fun _ _ _ _ ⟨a, q, u, e, p, r⟩ k => ⟨a, q, u, e, p.tk k, r.tk k⟩) (e₅.trans e₆.of) (by rintro b rfl; exact .inr nC)
      (by simp [List.getElem?_zipIdx, hiu]) ⟨p, q, tv, rfl, tp, kq.tk (E₅.trans e₆).tup⟩⟩
  rintro ps D h₂₃ j₂₃ pl lD nD
  have x₂₃ := x₂₁.more j₂₃.1
  have n₂₃ := ns_to n₂₁ j₂₃.1
  have apz := j₂₃.all (by rw [List.length_zipIdx]; omega)
  have hpw : ∀ (i : Nat) (t : T), us[i]? = some t → ∃ a q u, ps[i]? = some (.ref a) ∧ TupAt h₂₃ a [q, .int (i : Int) u] ∧ KeyAt h₂₃ t q := fun i t ht => by
    obtain ⟨_, hv, a, q, u, rfl, tp, kq⟩ := apz.get' (show us.zipIdx[i]? = some (t, i) by simp [List.getElem?_zipIdx, ht])
    exact ⟨a, q, u, hv, tp, kq⟩
  have ul5 := TT.lo
  have ul27 := TT.hi
  refine i_nil ⟨x₂₃.S, c_sorted_pairs (L := L) (us := us) (T.leaf "") n₂₃ hsz x₂₃.S unit lD (by omega) (by omega) (by omega) hpw TT.good TT.nd fun h₂₄ row p e₂₄ n₂₄ nrow pn as lrow => st_local n₂₄ fun h₂₅ e₂₅ n₂₅ => ?_⟩
  have e2325 : Ext (· = L) h₂₃ h₂₅ := e₂₄.trans e₂₅
  have rowL : row ≠ L := (ne_new (ns_some n₂₃) nrow).symm
  have lrow₂₅ := lrow.to e₂₅ rowL
  have x₂₅ := x₂₃.loc hL e2325
  have cL2 : ¬ (L + 2 = L) := l2
  have ck₂₅ := cell_to (cell_to ck₂₁ j₂₃.1) e2325 cL2
  have lka₂₅ := (lka₂₁.to j₂₃.1).to e2325 kaL
  have ak₂₅ : All2 (KeyAt h₂₅) us kv := ak₂₁.imp fun _ _ q => (q.tk j₂₃.1.tup).tk e2325.tup
  have rowk : ∀ k, k < us.length → ∃ a q u t v, (p.toList.map fun i => ps.getD i .none)[k]? = some (.ref a) ∧ TupAt h₂₅ a [q, .int ((p.getD k 0 : Nat) : Int) u] ∧ KeyAt h₂₅ t q ∧ us[p.getD k 0]? = some t ∧ us.getD (p.getD k 0) (T.leaf "") = t ∧ sv[p.getD k 0]? = some v ∧ TermAt h₂₅ t v := fun k hk => by
    have hp := pn.lt hk
    have hk' : k < p.size := by rw [pn.size]; exact hk
    have ht := List.getElem?_eq_getElem hp
    obtain ⟨a, q, u, e, ta, kt⟩ := hpw (p.getD k 0) _ ht
    obtain ⟨v, hv, tv⟩ := x₂₅.terms.get' ht
    refine ⟨a, q, u, _, v, ?_, ta.to e2325, kt.tk e2325.tup, ht, by unfold List.getD; rw [ht]; rfl, hv, tv⟩
    rw [List.getElem?_map, show p.toList[k]? = some (p.getD k 0) from by simp [Array.getD, hk']]
    show some (ps.getD (p.getD k 0) .none) = _
    unfold List.getD
    rw [e]; rfl
  have rl : (p.toList.map fun i => ps.getD i .none).length = us.length := by rw [List.length_map, Array.length_toList, pn.size]
  generalize (p.toList.map fun i => ps.getD i .none) = rv at rowk rl lrow₂₅ lrow
  clear apz hpw lD j₂₃ x₂₃ n₂₃ ck₂₁ lka₂₁ ak₂₁ x₂₁ x₂₀ lka₂₀ ak₂₀ ck₂₀ n₂₀ n₂₁ n₂₄ lrow
  -- for k in range(len(row) - 1)
  refine W.hideL ?_
  intro K
  refine x_cons ?_
  refine W.hideL ?_
  intro K
  refine x_forJ <| c_bi B x₂₅.S n_range <| i_cons <| e_bin <| c_bi B x₂₅.S n_len <| i_cons <| e_local n₂₅ rfl <| i_nil ⟨x₂₅.S, c_len_list lrow₂₅ (by omega) fun u => e_int fun _ => o_sub fun _ => i_nil ⟨x₂₅.S, c_range1 fun h₂₆ rg e₂₆ hr => src_range R₁.hh hr (by decide) (by omega) fun h₂₇ it Sr e₂₇ X s0 => ?_⟩⟩
  rw [rl, show ((us.length : Int) - 1 - 0).toNat = us.length - 1 by omega] at X
  have x₂₆ := x₂₅.more e₂₆
  have n₂₆ := ns_to n₂₅ e₂₆
  refine ⟨it, _, _, Sr, _, rfl, X, s0, e₂₇, fun i h' => ∃ m, Ext (· = L) h₂₆ h' ∧ h'.Ns L m ∧ m "row" = some (.ref row) ∧ m "some" = some (.ref sa) ∧ m "feed" = some (.ref f), ⟨_, .refl, n₂₆, rfl, rfl, rfl⟩, ?_, ?_, ?_⟩
  · rintro i h h' ⟨m, e, n, q⟩ s
    exact ⟨m, e.step (s.mono fun _ => False.elim), ns_step n s (ns_some n₂₆), q⟩
  · rintro k v h' hk ⟨tv, rfl⟩ ⟨m, e, n, mr, ms, mf⟩
    rw [show (0 : Int) + (k : Int) = k by omega]
    refine asg_local n fun h₅ e₅ n₅ => ?_
    have e6 : Ext (· = L) h₂₆ h₅ := e.trans e₅
    have e56 : Ext (· = L) h₂₅ h₅ := e₂₆.of.trans e6
    have x₅ := x₂₆.loc hL e6
    have lrow₅ := lrow₂₅.to e56 rowL
    obtain ⟨a1, q1, u1, t1, v1, r1, p1, k1, i1, g1, s1, m1⟩ := rowk k (by omega)
    obtain ⟨a2, q2, u2, t2, v2, r2, p2, k2, i2, g2, s2, m2⟩ := rowk (k + 1) (by omega)
    have pb1 := pn.lt (i := k) (by omega)
    have pb2 := pn.lt (i := k + 1) (by omega)
    have hah : ahead t1 t2 = true := by
      have := as k (k + 1) (by omega) (by omega)
      simp only [g1, g2] at this
      exact this
    have hne : t1 ≠ t2 := fun q => by
      subst q
      have z := ahead_asym hah
      rw [hah] at z; cases z
    obtain ⟨z1, _, gd1⟩ := hc (List.mem_of_getElem? i1)
    obtain ⟨z2, _, gd2⟩ := hc (List.mem_of_getElem? i2)
    refine W.hideL ?_
    intro K
    refine x_cons ?_
    refine W.hideL ?_
    intro K
    refine x_if <| b_or2 <| b_cmp <| e_sub <| e_sub <| e_local n₅ mr <| e_local n₅ rfl <| t_list (.ref a1) lrow₅ (by omega) (by omega) (by simpa using r1) <| e_int fun _ => t_tup q1 (p1.to e56) (by decide) (by decide) rfl ?_
    refine e_sub <| e_sub <| e_local n₅ mr <| e_bin <| e_local n₅ rfl <| e_int fun _ => o_add fun _ => t_list (.ref a2) lrow₅ (by omega) (by omega) (by simpa using r2) <| e_int fun _ => t_tup q2 (p2.to e56) (by decide) (by decide) rfl ?_
    refine o_eq_key (q := false) (k1.tk e56.tup) (k2.tk e56.tup) gd1 gd2 (Nat.lt_of_le_of_lt (Nat.add_le_add_left (by decide) _) unit) ⟨fun z => absurd z Bool.false_ne_true, fun z => absurd z hne⟩ ⟨false, rfl, ?_⟩
    rw [if_neg Bool.false_ne_true]
    refine b_not <| b_val <| c_glob B x₅.S n_ahead <| i_cons <| e_sub <| e_local n₅ ms <| e_sub <| e_sub <| e_local n₅ mr <| e_local n₅ rfl <| t_list (.ref a1) lrow₅ (by omega) (by omega) (by simpa using r1) <| e_int fun _ => t_tup (.int ((p.getD k 0 : Nat) : Int) u1) (p1.to e56) (by decide) (by decide) rfl <| t_list v1 x₅.lsm (by omega) (by omega) (by simpa using s1) ?_
    refine i_cons <| e_sub <| e_local n₅ ms <| e_sub <| e_sub <| e_local n₅ mr <| e_bin <| e_local n₅ rfl <| e_int fun _ => o_add fun _ => t_list (.ref a2) lrow₅ (by omega) (by omega) (by simpa using r2) <| e_int fun _ => t_tup (.int ((p.getD (k + 1) 0 : Nat) : Int) u2) (p2.to e56) (by decide) (by decide) rfl <| t_list v2 x₅.lsm (by omega) (by omega) (by simpa using s2) <| i_nil ⟨x₅.S, ?_⟩
    refine ahead_ok B x₅.S (R₁.mono (by omega)) (m1.to e56) (m2.to e56) (by omega) (by omega) fun h₆ e₆ => ⟨_, rfl, ?_⟩
    rw [hah, if_neg (by simp)]
    refine x_nil <| x_nil ⟨⟨(· = L), e₅.trans e₆.of, ?_⟩, _, e6.trans e₆.of, ns_to n₅ e₆, mr, ms, mf⟩
    rintro b rfl
    exact ⟨ns_some n₂₆, id⟩
  rintro h₂₈ ⟨m, e, n₂₈, mr, ms, mf⟩
  have e2528 : Ext (· = L) h₂₅ h₂₈ := e₂₆.of.trans e
  have x₂₈ := x₂₆.loc hL e
  have ck₂₈ := cell_to ck₂₅ e2528 cL2
  have lka₂₈ := lka₂₅.to e2528 kaL
  have ak₂₈ : All2 (KeyAt h₂₈) us kv := ak₂₅.imp fun _ _ q => q.tk e2528.tup
  clear rowk lrow₂₅ X x₂₅ x₂₆ e2528 ck₂₅ lka₂₅ ak₂₅ s0
  -- for lap in range(5)
  refine W.hideL ?_
  intro K
  refine x_cons ?_
  refine W.hideL ?_
  intro K
  refine x_forJ <| c_bi B x₂₈.S n_range <| i_cons <| e_int fun _ => i_nil ⟨x₂₈.S, c_range1 fun h₂₉ rg e₂₉ hr => src_range R₁.hh hr (by decide) (by decide) fun h₃₀ it Sr e₃₀ X s0 => ?_⟩
  have x₂₉ := x₂₈.more e₂₉
  have n₂₉ := ns_to n₂₈ e₂₉
  have ck₂₉ := cell_to ck₂₈ e₂₉
  have lka₂₉ := lka₂₈.to e₂₉
  have ak₂₉ : All2 (KeyAt h₂₉) us kv := ak₂₈.imp fun _ _ q => q.tk e₂₉.tup
  have of : h₂₉.get? f ≠ none := dict_some x₂₉.feed.dict.choose_spec
  have ol : h₂₉.get? l ≠ none := let ⟨_, q, _⟩ := x₂₉.feed.list; q.some
  have lf' : l ≠ L := fun q => x₂₉.old L (.inr (.inl rfl)) (q ▸ nl₁)
  have cf : ¬ (L + 2 = f) := fun q => x₂₉.old (L + 2) (.inr (.inr (.inr rfl))) (q ▸ nf)
  refine ⟨it, _, _, Sr, _, rfl, X, s0, e₃₀, fun i' h' => ∃ m j, j ≤ i + 2 * i' ∧ Ext (fun a => a = L ∨ a = f) h₂₉ h' ∧ FeedAt prog w h' f l j ∧ h'.Ns L m ∧ m "some" = some (.ref sa) ∧ m "feed" = some (.ref f), ⟨_, i, Nat.le_refl _, .refl, x₂₉.feed, n₂₉, ms, mf⟩, ?_, ?_, ?_⟩
  · rintro i' h h' ⟨m, j, hj, e, ff, n, q⟩ s
    exact ⟨m, j, hj, e.step (s.mono fun _ => False.elim), ff.step s of ol id id, ns_step n s (ns_some n₂₉), q⟩
  · rintro k v h' hk ⟨tv, rfl⟩ ⟨m, j, hj, e, ff, n, ms, mf⟩
    have hk5 : k < 5 := hk
    refine asg_local n fun h₅ e₅ n₅ => ?_
    have E₅ : Ext (fun a => a = L ∨ a = f) h₂₉ h₅ := e.trans (e₅.mono fun _ => .inl)
    have x₅ := x₂₉.draws hL E₅ (ff.to e₅ fL lf')
    refine W.hideL ?_
    intro K
    refine x_cons ?_
    refine W.hideL ?_
    intro K
    refine as_pair R₁.hh <| e_tup <| i_cons <| c_glob B x₅.S n_draw <| i_cons <| e_local n₅ mf <| i_cons <| c_bi B x₅.S n_len <| i_cons <| e_local n₅ ms <| i_nil ⟨x₅.S, c_len_list x₅.lsm (by omega) fun _ => i_nil ⟨x₅.S, draw_ok B x₅.S (R₁.mono (by omega)) x₅.feed hbf (by omega) (by omega) (by omega) fun h₆ r1 u1 e₆ f₆ ra rb => ?_⟩⟩
    have x₆ := x₅.draw e₆ f₆
    have n₆ := ns_to n₅ e₆ fL.symm
    refine i_cons <| c_glob B x₆.S n_draw <| i_cons <| e_local n₆ mf <| i_cons <| c_bi B x₆.S n_len <| i_cons <| e_local n₆ ms <| i_nil ⟨x₆.S, c_len_list x₆.lsm (by omega) fun _ => i_nil ⟨x₆.S, draw_ok B x₆.S (R₁.mono (by omega)) x₆.feed hbf (by omega) (by omega) (by omega) fun h₇ r2 u2 e₇ f₇ rc rd => ?_⟩⟩
    have x₇ := x₆.draw e₇ f₇
    have n₇ := ns_to n₆ e₇ fL.symm
    refine i_nil ⟨Nat.le_of_ble_eq_true rfl, fun h₈ tp e₈ _ ttp => ⟨tp, _, _, _, rfl, ttp, ns_to n₇ e₈, fun h₉ e₉ n₉ => ?_⟩⟩
    have E59 : Ext (fun a => a = L ∨ a = f) h₅ h₉ := ((e₆.trans e₇).mono fun _ => .inr).trans (e₈.of.trans (e₉.mono fun _ => .inl))
    have E₉ : Ext (fun a => a = L ∨ a = f) h₂₉ h₉ := E₅.trans E59
    have x₉ := (x₇.more e₈).loc hL e₉
    have ck₉ := cell_to ck₂₉ E₉ (by rintro (q | q); exact cL2 q; exact cf q)
    have lka₉ := lka₂₉.to E₉ (by rintro (q | q); exact kaL q; exact kaf q)
    have ak₉ : All2 (KeyAt h₉) us kv := ak₂₉.imp fun _ _ q => q.tk E₉.tup
    obtain ⟨a, rfl⟩ : ∃ a : Nat, r1 = a := ⟨r1.toNat, by omega⟩
    obtain ⟨c, rfl⟩ : ∃ c : Nat, r2 = c := ⟨r2.toNat, by omega⟩
    have ha : a < us.length := by omega
    have hcc : c < us.length := by omega
    have i1 := List.getElem?_eq_getElem ha
    have i2 := List.getElem?_eq_getElem hcc
    obtain ⟨q1, y1, k1⟩ := ak₉.get' i1
    obtain ⟨q2, y2, k2⟩ := ak₉.get' i2
    obtain ⟨v1, s1, m1⟩ := x₉.terms.get' i1
    obtain ⟨v2, s2, m2⟩ := x₉.terms.get' i2
    obtain ⟨z1, _, gd1⟩ := hc (List.mem_of_getElem? i1)
    obtain ⟨z2, _, gd2⟩ := hc (List.mem_of_getElem? i2)
    refine W.hideL ?_
    intro K
    refine x_cons ?_
    refine W.hideL ?_
    intro K
    refine x_if <| b_cmp <| e_cmp <| e_sub <| e_cell rfl ck₉ <| e_local n₉ rfl <| t_list q1 lka₉ (by omega) (by omega) (by simpa using y1) <| e_sub <| e_cell rfl ck₉ <| e_local n₉ rfl <| t_list q2 lka₉ (by omega) (by omega) (by simpa using y2) ?_
    refine o_lt_key k1 k2 gd1 gd2 (Nat.lt_of_le_of_lt (Nat.add_le_add_left (by decide) _) unit) ?_
    refine c_glob B x₉.S n_ahead <| i_cons <| e_sub <| e_local n₉ ms <| e_local n₉ rfl <| t_list v1 x₉.lsm (by omega) (by omega) (by simpa using s1) <| i_cons <| e_sub <| e_local n₉ ms <| e_local n₉ rfl <| t_list v2 x₉.lsm (by omega) (by omega) (by simpa using s2) <| i_nil ⟨x₉.S, ?_⟩
    refine ahead_ok B x₉.S (R₁.mono (by omega)) m1 m2 (by omega) (by omega) fun h₁₀ e₁₀ => o_isnot ⟨_, rfl, ?_⟩
    rw [bne_self_eq_false, if_neg Bool.false_ne_true]
    refine x_nil <| x_nil ⟨⟨fun a => a = L ∨ a = f, ((e₅.mono fun _ => .inl).trans E59).trans e₁₀.of, ?_⟩, _, _, ?_, E₉.trans e₁₀.of, x₉.feed.to e₁₀, ns_to n₉ e₁₀, ms, mf⟩
    · rintro b (rfl | rfl)
      · exact ⟨ns_some n₂₉, id⟩
      · exact ⟨of, id⟩
    · omega
  rintro h₃₁ ⟨m, j, hj, e, ff, n, ms, mf⟩
  have x₃₁ := x₂₉.draws hL e ff
  exact x_cons <| x_ret <| e_bool ⟨rfl, done x₃₁.S⟩
end Mine

end

section
open PySem PySem.W PyProof.Rows
namespace Mine
set_option maxHeartbeats 8000000
theorem n_law {w : World} : nsIn (KK w) mainGlobals "law" = some (some (.ref 235)) := rfl
theorem holds_all : PySem.Challenge.rw_pq0111_01.Holds := hd (by
  k_fill
  intro w s₀ s₁ mg mb G Y fa o pm cd doc dV kV ho hd hcd hD hmg hg args vals as hpre hlay hrd hwl hlo
  have KX := kIn_of Y
  have X := (Ground.X G).1
  have V := (Ground.X G).2
  try w_nolog (first | (have GL := glob_more (Ground.glob G (by first | k_qdec | decide +kernel) (by first | k_qdec | decide +kernel)) V) | (have GL := glob_more (Ground.glob G (by decide +kernel)) V))
  refine Ground.open G ?_
  intro T B D TE TW
  try (refine guard_noD D (by decide +kernel) ?_; clear D)
  clear hd
  wrow_args hpre hlay hrd hwl hlo
  rename_i ns _ _ _ _ _ _ _ sc vs rs hL _ _ _ hI _ h63 _
  have efa : fa = 235 := by
    have e := mg_of KX T.g n_law
    have hmg' : mg "law" = some (.ref fa) := hmg
    rw [hmg'] at e
    cases e
    rfl
  subst efa
  have BB : Base w s₁.heap := ⟨KX, ⟨_, _, _, _, topRead_of T⟩⟩
  have RR : Rm callerA 40 := ⟨rfl, by decide, by decide⟩
  refine wpAny_mono ((lawish (prog := Challenge.rw_pq0111_01.row.prog) (g := s₁) BB RR hL hI (by omega)).go s₁.toks) ?_ fun _ _ q => q.elim
  rintro v s' ⟨h', m, rfl, rfl, e⟩
  refine GoodW.toG ⟨.inl ⟨.bool true, .bool true, [], rfl, fun cls => rfl, .bool true, ?_, fun _ => ⟨.nil, fun _ ha => nomatch ha⟩⟩, fun b o q => e.keep b o id q, rfl, hg⟩
  first | rfl | (with_unfolding_all rfl) | (simp; done))
end Mine
end

theorem PySem.Challenge.cw_pq0111_01_holds : PySem.Challenge.rw_pq0111_01.Holds := by
  exact Mine.holds_all
