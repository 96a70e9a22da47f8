import PyProof.Rows.All
import PyProof.DictCompW
import PyProof.DictWalks
import KE.KLam
import KE.KDictSum
import KE.KDictOf
import KE.KSortTup
import Wide.FinOn
import OpenK.AllK
import Wide.All
import Lean
import PySem.Challenge.RW_nu0174_01
open PySem PySem.W PyProof.Rows PySem.Calls
set_option Elab.async false
set_option maxRecDepth 100000
set_option maxHeartbeats 4000000
set_option linter.unusedVariables false
set_option compiler.extract_closed false
set_option genInjectivity false
set_option genSizeOf false
namespace Mine
section -- Hd
/-! the head: the text's top run over a tree, looked at once -/
noncomputable def topT (tb : String → Option Builtin) (p : Program) (w : World) (n₀ : Nat) (ann : Option Value) : Nat → SharedT → Thread → Option SharedT
  | 0, _, _ => none
  | n + 1, s, t => match through t with
    | true => some s
    | false => match stepOk n₀ ann t with
      | false => none
      | true => match stepT (denote tb) p w s t with
        | some (s', t') => topT tb p w n₀ ann n s' t'
        | none => none
theorem topT_of {tb : String → Option Builtin} {p : Program} {w : World} {n₀ : Nat} {ann : Option Value} : ∀ {n : Nat} {s r : SharedT} {t : Thread}, topT tb p w n₀ ann n s t = some r → topRun tb p w n₀ ann n s.abs t = some r.abs
  | 0, _, _, _, h => nomatch h
  | n + 1, s, r, t, h => by
    unfold topT at h
    unfold topRun
    cases ht : through t with
    | true => rw [ht] at h; cases h; rfl
    | false =>
      rw [ht] at h
      cases hk : stepOk n₀ ann t with
      | false => rw [hk] at h; cases h
      | true =>
        rw [hk] at h
        cases hs : stepT (denote tb) p w s t with
        | none => rw [hs] at h; cases h
        | some x => obtain ⟨s₂, t₂⟩ := x; rw [hs] at h; rw [stepT_spec hs]; exact topT_of h
theorem left_tree {p q : Program} {loose : List Str} {Xt : Shared → Bool} {α : Type} {Yf : Shared → α} {Ya : World → α} {N : Nat} {T₀ : Params → BT} {n₀ : Nat} {life : Life} {g₀ : Array GenState} {d₀ : Drawn} {k₀ : Nat} {H₀ : Params → Heap} {ann : Option Value}
    (open_ : ∀ w : World, (fencedOpening treeTable p w N).map (fun s => (s.heap, s.gens, s.drawn, s.toks)) = some (H₀ w.params, g₀, d₀, k₀))
    (hT : ∀ P : Params, absHeap (T₀ P) n₀ life = H₀ P)
    (size : ∀ P : Params, ((H₀ P).isNs mainGlobals && g₀.size == 0, (H₀ P).objs.size, (H₀ P).nsMap mainGlobals "__annotations__") = (true, n₀, ann))
    (run : ∀ w : World, (fun os => (topT treeTable p w n₀ ann N ⟨T₀ w.params, n₀, life, g₀, d₀, k₀, os⟩ (topStub p)).map fun s => ((staticsOk (importedModules p.main.body) (H₀ w.params) s.abs.heap && namesBound p s.abs.heap && gensDone s.abs && laidKept (H₀ w.params) s.abs.heap),
        openSeen q loose (importedModules p.main.body) Xt true s.abs, Yf s.abs)) = fun _ => some (true, openGood q loose, Ya w)) : LeftO p q loose Xt Yf Ya N := fun w => by
  obtain ⟨⟨h, gs, d, k, os⟩, e, e'⟩ := Option.map_eq_some_iff.mp (open_ w)
  obtain ⟨rfl, rfl, rfl, rfl⟩ : h = H₀ w.params ∧ gs = g₀ ∧ d = d₀ ∧ k = k₀ := by simpa using e'
  obtain ⟨z1, z2, z3⟩ : _ ∧ _ ∧ _ := by simpa only [Prod.mk.injEq] using size w.params
  obtain ⟨s, hr, hs⟩ := Option.map_eq_some_iff.mp (congrFun (run w) os)
  obtain ⟨l1, l2, l3⟩ : _ ∧ _ ∧ _ := by simpa only [Prod.mk.injEq] using hs
  have r := topT_of hr
  have e0 : SharedT.abs ⟨T₀ w.params, n₀, life, gs, d, k, os⟩ = ⟨H₀ w.params, gs, d, k, os⟩ := by unfold SharedT.abs; rw [hT]
  rw [e0] at r
  have t : topFrom treeTable p w N ⟨H₀ w.params, gs, d, k, os⟩ = some s.abs := by
    unfold topFrom
    dsimp only
    rw [z1, z2, z3, r]
    show (match staticsOk (importedModules p.main.body) (H₀ w.params) s.abs.heap && namesBound p s.abs.heap && gensDone s.abs && laidKept (H₀ w.params) s.abs.heap with | true => _ | false => _) = _
    rw [l1]
  unfold openEnds
  rw [e]
  show (topFrom treeTable p w N _).map _ = _
  rw [t]
  exact congrArg some (Prod.ext l2 l3)
noncomputable abbrev PG : Program := PySem.Challenge.rw_nu0174_01.row.prog
noncomputable abbrev RR : RowW := (OpenLaw.row PySem.Challenge.rw_nu0174_01).toRowW
noncomputable def QV : Program := view PG [0,2,3,4,5,6,8,9,10,11,12,13,14,15,16,17,18,19,20,21,22,23,24,25,26,27,28,29,30,31,32,34,36,37,38,39,40,41,42,43]
noncomputable def bootT (P : Params) : BT := .node (boot_o_0 P) (.node (boot_o_1 P) (.node (boot_o_3 P) (.node (boot_o_7 P) .nil .nil) .nil) (.node (boot_o_5 P) (.node (boot_o_9 P) .nil .nil) .nil))
  (.node (boot_o_2 P) (.node (boot_o_4 P) (.node (boot_o_8 P) .nil .nil) .nil) (.node (boot_o_6 P) (.node (boot_o_10 P) .nil .nil) .nil))
theorem boot_tree (P : Params) : absHeap (bootT P) 11 (boot_heap P).life = boot_heap P := by kernel_rfl
theorem boot_size (P : Params) : ((boot_heap P).isNs mainGlobals && (Array.mk [] : Array GenState).size == 0, (boot_heap P).objs.size, (boot_heap P).nsMap mainGlobals "__annotations__") = (true, 11, some (Value.ref 6)) := by kernel_rfl
theorem top_opens : ∀ w : World, (fencedOpening treeTable PG w 4514).map (fun s => (s.heap, s.gens, s.drawn, s.toks)) = some (boot_heap w.params, Array.mk [], boot_drawn, boot_toks) :=
  boot_open (by kernel_rfl) (by decide) (fun s => by kernel_rfl)

set_option maxRecDepth 100000 in
theorem law_said : OpenLaw.wellSaid PySem.Challenge.rw_nu0174_01 = true := by
  unfold OpenLaw.wellSaid OpenRow.wellSaid OpenRow.partSaid looksOpen
  repeat' (with_reducible refine look_both ?_ ?_)
  all_goals decide +kernel
local macro_rules | `(tactic| o_law) => `(tactic| refine holds_law law_said fun said => ?_)
local macro_rules | `(tactic| o_head $H) => `(tactic| (
  refine holds_open (q := QV) (loose := []) (Xt := fun s => xlAt QV [] s && recOk (RowW.records RR) s) (XP := XL QV []) (Yf := Hook.obs $H) (Ya := Hook.val $H) (YP := Hook.says $H) (N := 4514) ?hl (Hook.of $H) (Hook.keeps $H)
    (fun s e => xl_of s (Bool.and_eq_true_iff.mp e).1) XL.keeps (by rfl) (by rfl) (by rfl) (fun s e => recFacts_of (Bool.and_eq_true_iff.mp e).2) (by rfl) (by assumption) (by decide +kernel) ⟨rfl, rfl, rfl, rfl, rfl, by decide +kernel⟩ ?hw ?hc
  case hl => exact left_tree top_opens boot_tree boot_size (fun w => by kernel_rfl)))
set_option maxRecDepth 100000 in
set_option maxHeartbeats 8000000 in
open_top hd for PySem.Challenge.rw_nu0174_01
end
local macro_rules | `(tactic| omega) => `(tactic| first | assumption | lia | omega +splitDisjunctions)
section -- Lg
/-! many at once -/
inductive And3 (p1 p2 p3 : Prop) : Prop
  | mk (h1 : p1) (h2 : p2) (h3 : p3) : And3 p1 p2 p3
inductive And4 (p1 p2 p3 p4 : Prop) : Prop
  | mk (h1 : p1) (h2 : p2) (h3 : p3) (h4 : p4) : And4 p1 p2 p3 p4
inductive And5 (p1 p2 p3 p4 p5 : Prop) : Prop
  | mk (h1 : p1) (h2 : p2) (h3 : p3) (h4 : p4) (h5 : p5) : And5 p1 p2 p3 p4 p5
inductive And6 (p1 p2 p3 p4 p5 p6 : Prop) : Prop
  | mk (h1 : p1) (h2 : p2) (h3 : p3) (h4 : p4) (h5 : p5) (h6 : p6) : And6 p1 p2 p3 p4 p5 p6
inductive And7 (p1 p2 p3 p4 p5 p6 p7 : Prop) : Prop
  | mk (h1 : p1) (h2 : p2) (h3 : p3) (h4 : p4) (h5 : p5) (h6 : p6) (h7 : p7) : And7 p1 p2 p3 p4 p5 p6 p7
inductive And8 (p1 p2 p3 p4 p5 p6 p7 p8 : Prop) : Prop
  | mk (h1 : p1) (h2 : p2) (h3 : p3) (h4 : p4) (h5 : p5) (h6 : p6) (h7 : p7) (h8 : p8) : And8 p1 p2 p3 p4 p5 p6 p7 p8
inductive And9 (p1 p2 p3 p4 p5 p6 p7 p8 p9 : Prop) : Prop
  | mk (h1 : p1) (h2 : p2) (h3 : p3) (h4 : p4) (h5 : p5) (h6 : p6) (h7 : p7) (h8 : p8) (h9 : p9) : And9 p1 p2 p3 p4 p5 p6 p7 p8 p9
inductive And11 (p1 p2 p3 p4 p5 p6 p7 p8 p9 p10 p11 : Prop) : Prop
  | mk (h1 : p1) (h2 : p2) (h3 : p3) (h4 : p4) (h5 : p5) (h6 : p6) (h7 : p7) (h8 : p8) (h9 : p9) (h10 : p10) (h11 : p11) : And11 p1 p2 p3 p4 p5 p6 p7 p8 p9 p10 p11
inductive And12 (p1 p2 p3 p4 p5 p6 p7 p8 p9 p10 p11 p12 : Prop) : Prop
  | mk (h1 : p1) (h2 : p2) (h3 : p3) (h4 : p4) (h5 : p5) (h6 : p6) (h7 : p7) (h8 : p8) (h9 : p9) (h10 : p10) (h11 : p11) (h12 : p12) : And12 p1 p2 p3 p4 p5 p6 p7 p8 p9 p10 p11 p12
inductive And13 (p1 p2 p3 p4 p5 p6 p7 p8 p9 p10 p11 p12 p13 : Prop) : Prop
  | mk (h1 : p1) (h2 : p2) (h3 : p3) (h4 : p4) (h5 : p5) (h6 : p6) (h7 : p7) (h8 : p8) (h9 : p9) (h10 : p10) (h11 : p11) (h12 : p12) (h13 : p13) : And13 p1 p2 p3 p4 p5 p6 p7 p8 p9 p10 p11 p12 p13
inductive And17 (p1 p2 p3 p4 p5 p6 p7 p8 p9 p10 p11 p12 p13 p14 p15 p16 p17 : Prop) : Prop
  | mk (h1 : p1) (h2 : p2) (h3 : p3) (h4 : p4) (h5 : p5) (h6 : p6) (h7 : p7) (h8 : p8) (h9 : p9) (h10 : p10) (h11 : p11) (h12 : p12) (h13 : p13) (h14 : p14) (h15 : p15) (h16 : p16) (h17 : p17) : And17 p1 p2 p3 p4 p5 p6 p7 p8 p9 p10 p11 p12 p13 p14 p15 p16 p17
inductive And19 (p1 p2 p3 p4 p5 p6 p7 p8 p9 p10 p11 p12 p13 p14 p15 p16 p17 p18 p19 : Prop) : Prop
  | mk (h1 : p1) (h2 : p2) (h3 : p3) (h4 : p4) (h5 : p5) (h6 : p6) (h7 : p7) (h8 : p8) (h9 : p9) (h10 : p10) (h11 : p11) (h12 : p12) (h13 : p13) (h14 : p14) (h15 : p15) (h16 : p16) (h17 : p17) (h18 : p18) (h19 : p19) : And19 p1 p2 p3 p4 p5 p6 p7 p8 p9 p10 p11 p12 p13 p14 p15 p16 p17 p18 p19
inductive Ex2 {α1 α2 : Type} (p : α1 → α2 → Prop) : Prop
  | mk (x1 : α1) (x2 : α2) (h : p x1 x2) : Ex2 p
inductive Ex3 {α1 α2 α3 : Type} (p : α1 → α2 → α3 → Prop) : Prop
  | mk (x1 : α1) (x2 : α2) (x3 : α3) (h : p x1 x2 x3) : Ex3 p
inductive Ex4 {α1 α2 α3 α4 : Type} (p : α1 → α2 → α3 → α4 → Prop) : Prop
  | mk (x1 : α1) (x2 : α2) (x3 : α3) (x4 : α4) (h : p x1 x2 x3 x4) : Ex4 p
inductive Ex5 {α1 α2 α3 α4 α5 : Type} (p : α1 → α2 → α3 → α4 → α5 → Prop) : Prop
  | mk (x1 : α1) (x2 : α2) (x3 : α3) (x4 : α4) (x5 : α5) (h : p x1 x2 x3 x4 x5) : Ex5 p
inductive Ex6 {α1 α2 α3 α4 α5 α6 : Type} (p : α1 → α2 → α3 → α4 → α5 → α6 → Prop) : Prop
  | mk (x1 : α1) (x2 : α2) (x3 : α3) (x4 : α4) (x5 : α5) (x6 : α6) (h : p x1 x2 x3 x4 x5 x6) : Ex6 p
inductive Ex8 {α1 α2 α3 α4 α5 α6 α7 α8 : Type} (p : α1 → α2 → α3 → α4 → α5 → α6 → α7 → α8 → Prop) : Prop
  | mk (x1 : α1) (x2 : α2) (x3 : α3) (x4 : α4) (x5 : α5) (x6 : α6) (x7 : α7) (x8 : α8) (h : p x1 x2 x3 x4 x5 x6 x7 x8) : Ex8 p
inductive Ex10 {α1 α2 α3 α4 α5 α6 α7 α8 α9 α10 : Type} (p : α1 → α2 → α3 → α4 → α5 → α6 → α7 → α8 → α9 → α10 → Prop) : Prop
  | mk (x1 : α1) (x2 : α2) (x3 : α3) (x4 : α4) (x5 : α5) (x6 : α6) (x7 : α7) (x8 : α8) (x9 : α9) (x10 : α10) (h : p x1 x2 x3 x4 x5 x6 x7 x8 x9 x10) : Ex10 p

/-- the goal under a name, while things are taken apart -/
noncomputable def Imp (P G : Prop) : Prop := P → G
theorem und {P : Prop} (h : ∀ G : Prop, Imp P G → G) : P := h P id
/-! the world of frozen objects, the list of mutable ones -/
noncomputable abbrev Wd := Addr → Option Obj
noncomputable abbrev Led := List (Addr × Obj)
noncomputable abbrev Vm := Str → Option Value
noncomputable def adr (X : Led) : List Addr := X.map (·.1)
theorem adr_nil : adr [] = [] := rfl
theorem adr_cons (p : Addr × Obj) (X : Led) : adr (p :: X) = p.1 :: adr X := rfl
theorem adr_append (X Y : Led) : adr (X ++ Y) = adr X ++ adr Y := List.map_append
theorem mem_adr {X : Led} {a : Addr} : a ∈ adr X ↔ ∃ o, (a, o) ∈ X := by
  unfold adr
  rw [List.mem_map]
  constructor
  · rintro ⟨⟨b, o⟩, h, rfl⟩; exact ⟨o, h⟩
  · rintro ⟨o, h⟩; exact ⟨(a, o), h, rfl⟩
theorem mem_adr_of {X : Led} {a : Addr} {o : Obj} (h : (a, o) ∈ X) : a ∈ adr X := mem_adr.mpr ⟨o, h⟩

noncomputable def Le (W W' : Wd) : Prop := ∀ a o, W a = some o → W' a = some o
theorem Le.refl (W : Wd) : Le W W := fun _ _ h => h
theorem Le.trans {W W' W'' : Wd} (x : Le W W') (y : Le W' W'') : Le W W'' := fun a o h => y a o (x a o h)
noncomputable def put (W : Wd) (a : Addr) (o : Obj) : Wd := fun b => if b = a then some o else W b
theorem put_same {W : Wd} {a : Addr} {o : Obj} : put W a o a = some o := if_pos rfl
theorem put_le {W : Wd} {a : Addr} {o : Obj} (h : W a = none) : Le W (put W a o) := fun b p e => by
  have : b ≠ a := fun q => by rw [q, h] at e; cases e
  exact (if_neg this).trans e

structure St (W : Wd) (X : Led) (h : Heap) : Prop where
  w : ∀ a o, W a = some o → h.get? a = some o
  x : ∀ a o, (a, o) ∈ X → h.get? a = some o
  xw : ∀ a o, (a, o) ∈ X → W a = none
  nd : (adr X).Nodup

/-- where a walk set out: the addresses that may turn, the world, the state -/
structure Org where
  O : Addr → Prop
  W : Wd
  s : Shared

structure Adv (g : Org) (W' : Wd) (X' : Led) (s' : Shared) : Prop where
  rest : ∃ h tk, s' = { g.s with heap := h, toks := tk }
  st : St W' X' s'.heap
  sub : Le g.W W'
  keep : ∀ a o, g.s.heap.get? a = some o → ¬ g.O a → s'.heap.get? a = some o
  fr : ∀ a o, W' a = some o → g.W a = some o ∨ g.O a ∨ g.s.heap.get? a = none
  xfr : ∀ a ∈ adr X', g.O a ∨ g.s.heap.get? a = none

/-- a call's own origin -/
noncomputable def org (W : Wd) (X : Led) (s : Shared) : Org := ⟨fun a => a ∈ adr X, W, s⟩

theorem Adv.start {O : Addr → Prop} {W : Wd} {X : Led} {s : Shared} (h : St W X s.heap) (hO : ∀ a ∈ adr X, O a) : Adv ⟨O, W, s⟩ W X s :=
  ⟨⟨s.heap, s.toks, rfl⟩, h, Le.refl W, fun _ _ e _ => e, fun _ _ e => .inl e, fun a h => .inl (hO a h)⟩
theorem Adv.org {W : Wd} {X : Led} {s : Shared} (h : St W X s.heap) : Adv (org W X s) W X s := Adv.start h fun _ h => h

theorem Adv.old {g : Org} {W' : Wd} {X' : Led} {s' : Shared} (D : Adv g W' X' s') {a : Addr} {o : Obj} (e : g.s.heap.get? a = some o) (hw : g.W a = none) (hx : ¬ g.O a) :
    s'.heap.get? a = some o ∧ W' a = none ∧ a ∉ adr X' := by
  refine ⟨D.keep a o e hx, ?_, fun hm => ?_⟩
  · cases q : W' a with
    | none => rfl
    | some o' =>
      rcases D.fr a o' q with h | h | h
      · rw [hw] at h; cases h
      · exact absurd h hx
      · rw [e] at h; cases h
  · rcases D.xfr a hm with h | h
    · exact hx h
    · rw [e] at h; cases h

theorem Adv.trans {g g' : Org} {W'' : Wd} {X' X'' : Led} {s'' : Shared} (D : Adv g g'.W X' g'.s) (D' : Adv g' W'' X'' s'') (hO : ∀ a, g'.O a → g.O a ∨ g.s.heap.get? a = none) : Adv g W'' X'' s'' := by
  refine ⟨?_, D'.st, D.sub.trans D'.sub, fun a o e hx => ?_, fun a o e => ?_, fun a ha => ?_⟩
  · obtain ⟨h, tk, e⟩ := D.rest
    obtain ⟨h', tk', e'⟩ := D'.rest
    exact ⟨h', tk', by rw [e', e]⟩
  · refine D'.keep a o (D.keep a o e hx) fun hm => ?_
    rcases hO a hm with h | h
    · exact hx h
    · rw [e] at h; cases h
  · rcases D'.fr a o e with h | h | h
    · exact D.fr a o h
    · exact .inr (hO a h)
    · cases q : g.s.heap.get? a with
      | none => exact .inr (.inr rfl)
      | some o' =>
        refine .inr (.inl (Classical.byContradiction fun hx => ?_))
        rw [D.keep a o' q hx] at h; cases h
  · rcases D'.xfr a ha with h | h
    · exact hO a h
    · cases q : g.s.heap.get? a with
      | none => exact .inr rfl
      | some o' =>
        refine .inl (Classical.byContradiction fun hx => ?_)
        rw [D.keep a o' q hx] at h; cases h

theorem Adv.step {g : Org} {W W'' : Wd} {X X'' : Led} {s s'' : Shared} (D : Adv g W X s) (D' : Adv (Mine.org W X s) W'' X'' s'') : Adv g W'' X'' s'' :=
  Adv.trans (g' := Mine.org W X s) D D' fun a h => D.xfr a h

theorem St.perm {W : Wd} {X X' : Led} {h : Heap} (S : St W X h) (hs : ∀ p ∈ X', p ∈ X) (hn : (adr X').Nodup) : St W X' h :=
  ⟨S.w, fun a o m => S.x a o (hs _ m), fun a o m => S.xw a o (hs _ m), hn⟩

/-- a part of X alone -/
theorem Adv.widen {W : Wd} {Xp Xr : Led} {s : Shared} {W' : Wd} {Xp' : Led} {s' : Shared} (S : St W (Xp ++ Xr) s.heap) (D : Adv (Mine.org W Xp s) W' Xp' s') : Adv (Mine.org W (Xp ++ Xr) s) W' (Xp' ++ Xr) s' := by
  have nd := S.nd
  rw [adr_append] at nd
  obtain ⟨n1, n2, n3⟩ := List.nodup_append.mp nd
  have old : ∀ a o, (a, o) ∈ Xr → s'.heap.get? a = some o ∧ W' a = none ∧ a ∉ adr Xp' := fun a o hm =>
    D.old (S.x a o (List.mem_append_right _ hm)) (S.xw a o (List.mem_append_right _ hm)) fun hp => n3 a hp a (mem_adr_of hm) rfl
  have imp : ∀ a, a ∈ adr Xp → a ∈ adr (Xp ++ Xr) := fun a h => by rw [adr_append]; exact List.mem_append_left _ h
  refine ⟨D.rest, ⟨D.st.w, fun a o hm => ?_, fun a o hm => ?_, ?_⟩, D.sub, fun a o e hx => ?_, fun a o e => ?_, fun a ha => ?_⟩
  · rcases List.mem_append.mp hm with h | h
    · exact D.st.x a o h
    · exact (old a o h).1
  · rcases List.mem_append.mp hm with h | h
    · exact D.st.xw a o h
    · exact (old a o h).2.1
  · rw [adr_append]
    refine List.nodup_append.mpr ⟨D.st.nd, n2, fun a ha b hb e => ?_⟩
    subst e
    obtain ⟨o, hm⟩ := mem_adr.mp hb
    exact (old a o hm).2.2 ha
  · exact D.keep a o e fun h => hx (imp a h)
  · exact (D.fr a o e).imp id (Or.imp (imp a) id)
  · rw [adr_append] at ha
    rcases List.mem_append.mp ha with h | h
    · exact (D.xfr a h).imp (imp a) id
    · exact .inl (show a ∈ adr (Xp ++ Xr) by rw [adr_append]; exact List.mem_append_right _ h)

/-- X' part of X -/
theorem Adv.drop {g : Org} {W' : Wd} {X' X'' : Led} {s' : Shared} (D : Adv g W' X' s') (hs : ∀ p ∈ X'', p ∈ X') (hn : (adr X'').Nodup) : Adv g W' X'' s' :=
  ⟨D.rest, D.st.perm hs hn, D.sub, D.keep, D.fr, fun a ha => D.xfr a (by obtain ⟨o, hm⟩ := mem_adr.mp ha; exact mem_adr_of (hs _ hm))⟩

theorem Adv.more {g g' : Org} {W' : Wd} {X' : Led} {s' : Shared} (D : Adv g W' X' s') (hs : g'.s = g.s) (hW : g'.W = g.W) (h1 : ∀ a, g.O a → g'.O a ∨ g.s.heap.get? a = none) : Adv g' W' X' s' := by
  refine ⟨by rw [hs]; exact D.rest, D.st, by rw [hW]; exact D.sub, fun a o e hx => ?_, fun a o e => ?_, fun a ha => ?_⟩
  · rw [hs] at e
    refine D.keep a o e fun h => ?_
    rcases h1 a h with h | h
    · exact hx h
    · rw [h] at e; cases e
  · rw [hW, hs]
    rcases D.fr a o e with h | h | h
    · exact .inl h
    · exact .inr (h1 a h)
    · exact .inr (.inr h)
  · rw [hs]
    rcases D.xfr a ha with h | h
    · exact h1 a h
    · exact .inr h

/-- an object of X goes to the world -/
theorem Adv.freeze {g : Org} {W' : Wd} {X' : Led} {a : Addr} {o : Obj} {s' : Shared} (D : Adv g W' ((a, o) :: X') s') : Adv g (put W' a o) X' s' ∧ W' a = none := by
  have nd := D.st.nd
  rw [adr_cons] at nd
  obtain ⟨n1, n2⟩ := List.nodup_cons.mp nd
  have ha := D.st.x a o List.mem_cons_self
  have hw := D.st.xw a o List.mem_cons_self
  refine ⟨⟨D.rest, ⟨fun b p e => ?_, fun b p m => D.st.x b p (List.mem_cons_of_mem _ m), fun b p m => ?_, n2⟩, D.sub.trans (put_le hw), D.keep, fun b p e => ?_, fun b m => D.xfr b (by rw [adr_cons]; exact List.mem_cons_of_mem _ m)⟩, hw⟩
  · unfold put at e
    by_cases h : b = a
    · subst h; rw [if_pos rfl] at e; cases e; exact ha
    · rw [if_neg h] at e; exact D.st.w b p e
  · have : b ≠ a := fun h => n1 (h ▸ mem_adr_of m)
    show (if b = a then some o else W' b) = none
    rw [if_neg this]; exact D.st.xw b p (List.mem_cons_of_mem _ m)
  · unfold put at e
    by_cases h : b = a
    · subst h
      exact .inr (D.xfr b (by rw [adr_cons]; exact List.mem_cons_self))
    · rw [if_neg h] at e; exact D.fr b p e

/-! the frame at hand -/
noncomputable def Own (env : Env) (a : Addr) : Prop := a = env.locals ∨ ∃ x, env.cells.lookup x = some a
structure Fm (env : Env) (m : Vm) (W : Wd) (X : Led) (h : Heap) : Prop where
  loc : ∃ ml, h.Ns env.locals ml ∧ ∀ x, env.kindOf x = some .local → ml x = m x
  lw : W env.locals = none
  lx : env.locals ∉ adr X
  cel : ∀ x a, env.cells.lookup x = some a → h.IsCell a (m x) ∧ W a = none ∧ a ∉ adr X ∧ a ≠ env.locals
  inj : ∀ x y a, env.cells.lookup x = some a → env.cells.lookup y = some a → x = y

theorem Fm.adv {env : Env} {m : Vm} {W : Wd} {X : Led} {s : Shared} {W' : Wd} {X' : Led} {s' : Shared} (F : Fm env m W X s.heap) (D : Adv (org W X s) W' X' s') : Fm env m W' X' s'.heap := by
  obtain ⟨ml, ⟨o, es, ep, ho, h1, h2, h3⟩, hm⟩ := F.loc
  obtain ⟨k1, k2, k3⟩ := D.old ho F.lw F.lx
  refine ⟨⟨ml, ⟨o, es, ep, k1, h1, h2, h3⟩, hm⟩, k2, k3, fun x a hc => ?_, F.inj⟩
  obtain ⟨⟨oc, hoc, hd⟩, c2, c3, c4⟩ := F.cel x a hc
  obtain ⟨k1, k2, k3⟩ := D.old hoc c2 c3
  exact ⟨⟨oc, k1, hd⟩, k2, k3, c4⟩

noncomputable def upd (m : Vm) (x : Str) (v : Value) : Vm := fun y => if y = x then some v else m y
theorem upd_same {m : Vm} {x : Str} {v : Value} : upd m x v x = some v := if_pos rfl
theorem upd_ne {m : Vm} {x y : Str} {v : Value} {u : Option Value} (h : ¬ y = x) (e : m y = u) : upd m x v y = u := (if_neg h).trans e

structure Cur (env : Env) (m : Vm) (g : Org) (W : Wd) (X : Led) (s : Shared) : Prop where
  adv : Adv g W X s
  fm : Fm env m W X s.heap
  ok : ∀ a, Own env a → g.O a ∨ g.s.heap.get? a = none

/-- the origin of a part of a body (a loop's turn) -/
noncomputable def orgL (env : Env) (W : Wd) (X : Led) (s : Shared) : Org := ⟨fun a => a ∈ adr X ∨ Own env a, W, s⟩

section
variable {env : Env} {m : Vm} {g : Org} {W : Wd} {X : Led} {s : Shared}
theorem Cur.go {W' : Wd} {X' : Led} {s' : Shared} (C : Cur env m g W X s) (D : Adv (org W X s) W' X' s') : Cur env m g W' X' s' := ⟨C.adv.step D, C.fm.adv D, C.ok⟩
theorem Cur.self (C : Cur env m g W X s) : Cur env m (orgL env W X s) W X s := ⟨.start C.adv.st fun _ h => .inl h, C.fm, fun _ h => .inl (.inr h)⟩
theorem Cur.back {m' : Vm} {W' : Wd} {X' : Led} {s' : Shared} (C : Cur env m g W X s) (D : Cur env m' (orgL env W X s) W' X' s') : Cur env m' g W' X' s' :=
  ⟨C.adv.trans (g' := orgL env W X s) D.adv fun a h => by
    rcases h with h | h
    · exact C.adv.xfr a h
    · exact C.ok a h, D.fm, C.ok⟩
theorem Cur.drop {X' : Led} (C : Cur env m g W X s) (hs : ∀ p ∈ X', p ∈ X) (hn : (adr X').Nodup) : Cur env m g W X' s := C.go ((Adv.org C.adv.st).drop hs hn)
theorem Cur.freeze {a : Addr} {o : Obj} (C : Cur env m g W ((a, o) :: X) s) : Cur env m g (put W a o) X s ∧ W a = none :=
  ⟨C.go (Adv.org C.adv.st).freeze.1, (Adv.org C.adv.st).freeze.2⟩
/-- a call that turns a part of X alone -/
theorem Cur.part {Xp Xr Xp' : Led} {W' : Wd} {s' : Shared} (C : Cur env m g W (Xp ++ Xr) s) (D : Adv (org W Xp s) W' Xp' s') : Cur env m g W' (Xp' ++ Xr) s' := C.go (D.widen C.adv.st)

/-- a heap that differs in the frame's own objects alone -/
theorem Cur.own {a : Addr} {m' : Vm} {h' : Heap} {tk : Nat} (C : Cur env m g W X s) (hs : Heap.SameBut a s.heap h') (hw : W a = none) (hx : a ∉ adr X) (h0 : Own env a) (F : Fm env m' W X h') :
    Cur env m' g W X { s with heap := h', toks := tk } := by
  refine ⟨⟨?_, ⟨fun b o e => ?_, fun b o e => ?_, C.adv.st.xw, C.adv.st.nd⟩, C.adv.sub, fun b o e hx' => ?_, C.adv.fr, C.adv.xfr⟩, F, C.ok⟩
  · obtain ⟨h, t, e⟩ := C.adv.rest
    exact ⟨h', tk, by rw [e]⟩
  · have : b ≠ a := fun q => by rw [q, hw] at e; cases e
    exact (hs.2 b this).trans (C.adv.st.w b o e)
  · have : b ≠ a := fun q => hx (q ▸ mem_adr_of e)
    exact (hs.2 b this).trans (C.adv.st.x b o e)
  · have : b ≠ a := fun q => by
      rcases C.ok a h0 with h | h
      · exact hx' (q ▸ h)
      · rw [q, h] at e; cases e
    exact (hs.2 b this).trans (C.adv.keep b o e hx')

theorem Cur.toks (C : Cur env m g W X s) (tk : Nat) : Cur env m g W X { s with toks := tk } :=
  ⟨⟨let ⟨h, _, e⟩ := C.adv.rest; ⟨h, tk, by rw [e]⟩, C.adv.st, C.adv.sub, C.adv.keep, C.adv.fr, C.adv.xfr⟩, C.fm, C.ok⟩
theorem Adv.toks {W' : Wd} {X' : Led} {s' : Shared} (D : Adv g W' X' s') (tk : Nat) : Adv g W' X' { s' with toks := tk } :=
  ⟨let ⟨h, _, e⟩ := D.rest; ⟨h, tk, by rw [e]⟩, D.st, D.sub, D.keep, D.fr, D.xfr⟩

/-- a new object -/
theorem Adv.push {W' : Wd} {X' : Led} {s' : Shared} (D : Adv g W' X' s') (o : Obj) (hf : o.isFreed = false := by rfl) : Adv g W' ((s'.heap.objs.size, o) :: X') { s' with heap := s'.heap.push o } := by
  have new : ∀ b p, s'.heap.get? b = some p → b ≠ s'.heap.objs.size := fun b p e q => absurd (Heap.lt_size e) (by rw [q]; exact Nat.lt_irrefl _)
  have hw : W' s'.heap.objs.size = none := by
    cases q : W' s'.heap.objs.size with
    | none => rfl
    | some o' => exact absurd rfl (new _ _ (D.st.w _ _ q))
  refine ⟨let ⟨h, t, e⟩ := D.rest; ⟨_, t, by rw [e]⟩, ⟨fun b p e => Heap.get?_push_of_some _ (D.st.w b p e), fun b p m => ?_, fun b p m => ?_, ?_⟩, D.sub, fun b p e hx => Heap.get?_push_of_some _ (D.keep b p e hx), D.fr, fun b m => ?_⟩
  · rcases List.mem_cons.mp m with e | m
    · cases e; exact Heap.get?_push_size _ hf
    · exact Heap.get?_push_of_some _ (D.st.x b p m)
  · rcases List.mem_cons.mp m with e | m
    · cases e; exact hw
    · exact D.st.xw b p m
  · rw [adr_cons]
    refine List.nodup_cons.mpr ⟨fun hm => ?_, D.st.nd⟩
    obtain ⟨p, hp⟩ := mem_adr.mp hm
    exact new _ _ (D.st.x _ _ hp) rfl
  · rw [adr_cons] at m
    rcases List.mem_cons.mp m with e | m
    · have e' : b = s'.heap.objs.size := e
      subst e'
      cases q : g.s.heap.get? s'.heap.objs.size with
      | none => exact .inr rfl
      | some o' =>
        refine .inl (Classical.byContradiction fun hx => ?_)
        exact new _ _ (D.keep _ _ q hx) rfl
    · exact D.xfr b m

/-- the first of X turns -/
theorem Adv.set {W' : Wd} {X' : Led} {s' : Shared} {a : Addr} {o o' : Obj} {h' : Heap} (D : Adv g W' ((a, o) :: X') s') (hs : Heap.SameBut a s'.heap h') (ho : h'.get? a = some o') (tk : Nat := s'.toks) :
    Adv g W' ((a, o') :: X') { s' with heap := h', toks := tk } := by
  have nd := D.st.nd
  rw [adr_cons] at nd
  obtain ⟨n1, n2⟩ := List.nodup_cons.mp nd
  have hw := D.st.xw a o List.mem_cons_self
  refine ⟨let ⟨h, t, e⟩ := D.rest; ⟨_, tk, by rw [e]⟩, ⟨fun b p e => ?_, fun b p m => ?_, fun b p m => ?_, D.st.nd⟩, D.sub, fun b p e hx => ?_, D.fr, D.xfr⟩
  · have : b ≠ a := fun q => by rw [q, hw] at e; cases e
    exact (hs.2 b this).trans (D.st.w b p e)
  · rcases List.mem_cons.mp m with e | m
    · cases e; exact ho
    · have : b ≠ a := fun q => n1 (q ▸ mem_adr_of m)
      exact (hs.2 b this).trans (D.st.x b p (List.mem_cons_of_mem _ m))
  · rcases List.mem_cons.mp m with e | m
    · cases e; exact hw
    · exact D.st.xw b p (List.mem_cons_of_mem _ m)
  · have : b ≠ a := fun q => by
      subst q
      rcases D.xfr b (by rw [adr_cons]; exact List.mem_cons_self) with h | h
      · exact hx h
      · rw [h] at e; cases e
    exact (hs.2 b this).trans (D.keep b p e hx)

theorem Cur.push (C : Cur env m g W X s) (o : Obj) (hf : o.isFreed = false := by rfl) : Cur env m g W ((s.heap.objs.size, o) :: X) { s with heap := s.heap.push o } := C.go ((Adv.org C.adv.st).push o hf)
theorem Cur.set {a : Addr} {o o' : Obj} {h' : Heap} (C : Cur env m g W ((a, o) :: X) s) (hs : Heap.SameBut a s.heap h') (ho : h'.get? a = some o') (tk : Nat := s.toks) : Cur env m g W ((a, o') :: X) { s with heap := h', toks := tk } :=
  C.go ((Adv.org C.adv.st).set hs ho tk)
/-- a new object, frozen at once -/
theorem Adv.pushW {W' : Wd} {X' : Led} {s' : Shared} (D : Adv g W' X' s') (o : Obj) (hf : o.isFreed = false := by rfl) : Adv g (put W' s'.heap.objs.size o) X' { s' with heap := s'.heap.push o } ∧ W' s'.heap.objs.size = none := (D.push o hf).freeze
theorem Cur.pushW (C : Cur env m g W X s) (o : Obj) (hf : o.isFreed = false := by rfl) : Cur env m g (put W s.heap.objs.size o) X { s with heap := s.heap.push o } ∧ W s.heap.objs.size = none := (C.push o hf).freeze

/-! names -/
variable {M : Model} {A : Around} {E : Value → Shared → Prop}

theorem Cur.load {x : Str} {v : Value} (C : Cur env m g W X s) (hl : env.kindOf x = some .local) (hv : m x = some v) : ∃ ml, s.heap.Ns env.locals ml ∧ ml x = some v := by
  obtain ⟨ml, hn, h⟩ := C.fm.loc
  exact ⟨ml, hn, (h x hl).trans hv⟩
theorem nm_loc {x : Str} {pos : Pos} {v : Value} {Q : Value → Shared → Prop} (C : Cur env m g W X s) (hk : env.scope.kind = .function) (hl : env.kindOf x = some .local) (hd : (x == ("__debug__" : Str)) = false) (hv : m x = some v) (h : Q v s) :
    wpAny M A (eval (.Name x pos) env) Q E s := by
  obtain ⟨ml, hn, e⟩ := C.load hl hv
  exact wpAny_Name (wpAny_loadName_local hk hl hn e h) hd
theorem nm_cel {x : Str} {pos : Pos} {v : Value} {c : Addr} {Q : Value → Shared → Prop} (C : Cur env m g W X s) (hk : env.scope.kind = .function) (hl : env.kindOf x = some .cell) (hc : env.cells.lookup x = some c) (hd : (x == ("__debug__" : Str)) = false) (hv : m x = some v) (h : Q v s) :
    wpAny M A (eval (.Name x pos) env) Q E s := by
  have q := (C.fm.cel x c hc).1
  rw [hv] at q
  exact wpAny_Name (wpAny_loadName_cell hk hl hc q h) hd
theorem nm_fre {x : Str} {pos : Pos} {v : Value} {c : Addr} {Q : Value → Shared → Prop} (C : Cur env m g W X s) (hk : env.scope.kind = .function) (hl : env.kindOf x = some .free) (hc : env.cells.lookup x = some c) (hd : (x == ("__debug__" : Str)) = false) (hn : (x == ("__classdict__" : Str)) = false)
    (hv : m x = some v) (h : Q v s) : wpAny M A (eval (.Name x pos) env) Q E s := by
  have q := (C.fm.cel x c hc).1
  rw [hv] at q
  exact wpAny_Name (wpAny_loadName_free hk hl hc q h hn) hd

theorem st_loc {x : Str} {v : Value} {Q : Unit → Shared → Prop} (C : Cur env m g W X s) (hk : env.scope.kind = .function) (hl : env.kindOf x = some .local) (hc : env.cells.lookup x = none)
    (h : ∀ s', Cur env (upd m x v) g W X s' → Q () s') : wpAny M A (storeName env x v) Q E s := by
  obtain ⟨ml, hn, hm⟩ := C.fm.loc
  refine wpAny_storeName_local hl hn (fun h' hn' hs' => h _ ?_) (by rw [hk]; rfl)
  refine C.own hs' C.fm.lw C.fm.lx (.inl rfl) ⟨⟨_, hn', fun y hy => ?_⟩, C.fm.lw, C.fm.lx, fun y a hy => ?_, C.fm.inj⟩
  · by_cases e : y = x
    · subst e; rw [upd_same]; exact if_pos rfl
    · rw [upd_ne e (hm y hy).symm]; exact if_neg e
  · obtain ⟨c1, c2, c3, c4⟩ := C.fm.cel y a hy
    have : ¬ y = x := fun e => by rw [e, hc] at hy; cases hy
    refine ⟨?_, c2, c3, c4⟩
    rw [upd_ne this rfl]
    exact c1.sameBut hs' c4
theorem st_cel {x : Str} {v : Value} {c : Addr} {Q : Unit → Shared → Prop} (C : Cur env m g W X s) (hk : env.scope.kind = .function) (hl : env.kindOf x = some .cell) (hc : env.cells.lookup x = some c)
    (h : ∀ s', Cur env (upd m x v) g W X s' → Q () s') : wpAny M A (storeName env x v) Q E s := by
  obtain ⟨c1, c2, c3, c4⟩ := C.fm.cel x c hc
  refine wpAny_storeName_cell hk hl hc c1 fun h' hc' hs' => h _ ?_
  refine C.own hs' c2 c3 (.inr ⟨x, hc⟩) ⟨?_, C.fm.lw, C.fm.lx, fun y a hy => ?_, C.fm.inj⟩
  · obtain ⟨ml, hn, hm⟩ := C.fm.loc
    refine ⟨ml, hn.sameBut hs' (Ne.symm c4), fun y hy => ?_⟩
    have : ¬ y = x := fun e => by rw [e, hl] at hy; cases hy
    rw [upd_ne this rfl]; exact hm y hy
  · obtain ⟨d1, d2, d3, d4⟩ := C.fm.cel y a hy
    refine ⟨?_, d2, d3, d4⟩
    by_cases e : y = x
    · subst e
      rw [hc] at hy; cases hy
      rw [upd_same]; exact hc'
    · rw [upd_ne e rfl]
      exact d1.sameBut hs' fun q => e (C.fm.inj y x a hy (q ▸ hc))
end
end
section -- Lh
/-- the text's own objects and names, within the world -/
structure GW (w : World) (K : Frag) (W : Wd) : Prop where
  ex : ∃ (h₀ : Heap) (p : Program) (loose : List Str) (mean : ExcName → Option Value) (mg mb : Vm), K.In h₀ ∧ Top p loose mean mg mb h₀ ∧ ∀ a o, h₀.get? a = some o → W a = some o
theorem GW.up {w : World} {K : Frag} {W W' : Wd} (G : GW w K W) (h : Le W W') : GW w K W' := by
  refine und fun Gq hGq => ?_
  obtain ⟨h₀, p, loose, mean, mg, mb, X, T, hk⟩ := G.ex
  refine hGq ?_
  clear hGq Gq
  exact ⟨h₀, p, loose, mean, mg, mb, X, T, fun a o e => h a o (hk a o e)⟩
theorem GW.inH {w : World} {K : Frag} {W : Wd} {X : Led} {h : Heap} (G : GW w K W) (S : St W X h) : K.In h := by
  refine und fun Gq hGq => ?_
  obtain ⟨h₀, p, loose, mean, mg, mb, X, T, hk⟩ := G.ex
  refine hGq ?_
  clear hGq Gq
  exact fun a o e => S.w a o (hk a o (X a o e))
theorem GW.at {w : World} {K : Frag} {W : Wd} (G : GW w K W) {a : Addr} {o : Obj} (e : K.lookup a = some o) : W a = some o := by
  refine und fun Gq hGq => ?_
  obtain ⟨h₀, p, loose, mean, mg, mb, X, T, hk⟩ := G.ex
  refine hGq ?_
  clear hGq Gq
  exact hk a o (X a o e)
theorem GW.nolimit {w : World} {K : Frag} {W : Wd} {X : Led} {h : Heap} (G : GW w K W) (S : St W X h) : h.NoLimit := by
  refine und fun Gq hGq => ?_
  obtain ⟨h₀, p, loose, mean, mg, mb, X, T, hk⟩ := G.ex
  refine hGq ?_
  clear hGq Gq
  exact T.nolimit.keeps fun a o e => S.w a o (hk a o e)

/-- room to call -/
structure Room (A : Around) (n : Nat) : Prop where
  hd : A.handled = none
  dp : A.depth + n < recursionLimit
  un : A.units + 100 * n < cLine
theorem Room.le {A : Around} {n m : Nat} (r : Room A n) (h : m ≤ n) : Room A m := ⟨r.hd, by have := r.dp; omega, by have := r.un; omega⟩
theorem Room.deeper {A : Around} {n : Nat} {env : Env} (r : Room A (n + 1)) : Room (A.deeper env) n :=
  ⟨r.hd, by have := r.dp; show A.depth + 1 + n < _; omega, by have := r.un; show A.units + 3 + 100 * n < _; omega⟩
theorem Room.in1 {A : Around} {n : Nat} (r : Room A (n + 1)) : Room A.in1 n := ⟨r.hd, by have := r.dp; show A.depth + n < _; omega, by have := r.un; show A.units + 1 + 100 * n < _; omega⟩
theorem Room.dep {A : Around} {n : Nat} (r : Room A n) : A.depth < recursionLimit := by have := r.dp; omega
theorem Room.uni {A : Around} {n : Nat} (r : Room A n) : A.units < cLine := by have := r.un; omega

noncomputable def mB (binds : List (Str × Value)) (m : Vm) : Vm := binds.foldl (fun m p => upd m p.1 p.2) m
theorem mB_loc {k : Str → Option NameKind} {y : Str} (hy : k y = some .local) : ∀ (binds : List (Str × Value)) (m m' : Vm), m y = m' y → bindL k binds m y = mB binds m' y
  | [], _, _, h => h
  | (n, v) :: r, m, m', h => by
    refine mB_loc hy r _ _ ?_
    by_cases e : y = n
    · subst e; rw [if_pos hy]; show (if y = y then some v else m y) = (if y = y then some v else m' y); rw [if_pos rfl, if_pos rfl]
    · split
      · show (if y = n then some v else m y) = (if y = n then some v else m' y); rw [if_neg e, if_neg e]; exact h
      · show m y = (if y = n then some v else m' y); rw [if_neg e]; exact h
theorem mB_cel {k : Str → Option NameKind} {y : Str} (hy : k y ≠ some .local) : ∀ (binds : List (Str × Value)) (m m' : Vm), m y = m' y → bindC k binds m y = mB binds m' y
  | [], _, _, h => h
  | (n, v) :: r, m, m', h => by
    refine mB_cel hy r _ _ ?_
    by_cases e : y = n
    · subst e; rw [if_neg hy]; show (if y = y then some v else m y) = (if y = y then some v else m' y); rw [if_pos rfl, if_pos rfl]
    · split
      · show m y = (if y = n then some v else m' y); rw [if_neg e]; exact h
      · show (if y = n then some v else m y) = (if y = n then some v else m' y); rw [if_neg e, if_neg e]; exact h

/-- no cell bears a local's name -/
noncomputable def cellsOk (names : List (Str × NameKind)) : Bool := names.all fun x => x.2 != .cell || names.lookup x.1 == some .cell
theorem cellsFrom_kind : ∀ (names : List (Str × NameKind)) (n : Nat) (acc : List (Str × Addr)) (P : Str → Prop), (∀ x c, (x, c) ∈ acc → P x) → (∀ x, (x, NameKind.cell) ∈ names → P x) → ∀ x c, (x, c) ∈ cellsFrom n names acc → P x
  | [], _, _, _, h, _, x, c, m => h x c m
  | (y, k) :: r, n, acc, P, h, h', x, c, m => by
    unfold cellsFrom at m
    split at m
    · rename_i e
      have e' : k = .cell := by simpa using e
      subst e'
      refine cellsFrom_kind r (n + 1) _ P (fun x c m => ?_) (fun x m => h' x (List.mem_cons_of_mem _ m)) x c m
      rcases List.mem_cons.mp m with q | q
      · cases q; exact h' y List.mem_cons_self
      · exact h x c q
    · exact cellsFrom_kind r n acc P h (fun x m => h' x (List.mem_cons_of_mem _ m)) x c m

section
variable {prog : Program} {w : World} {A : Around} {K : Frag} {W : Wd} {X : Led} {s : Shared} {R : Result → Shared → Prop}

theorem enter {name qual : Str} {params : Arguments} {body : List Stmt} {scope : Scope} {dV kV doc pm cdv ct oc : Value} {an od : Option Addr} {osl : Array (Option Value)} {f : Addr} {args : Args} {binds : List (Str × Value)} {n : Nat}
    (G : GW w K W) (S : St W X s.heap) (hr : Room A (n + 1))
    (ho : K.lookup f = some ⟨oc, od, .func (fnOf name qual params body scope dV kV doc pm an cdv ct), osl⟩) (hcd : codeIn K cdv qual = true)
    (hbind : BindsTo s (fnOf name qual params body scope dV kV doc pm an cdv ct) args binds)
    (hkind : (binds.all fun y => scope.names.lookup y.1 == some .local || scope.names.lookup y.1 == some .cell) = true)
    (hck : cellsOk scope.names = true)
    (h : ∀ L s₁, Cur (envOfC qual scope L f cdv) (mB binds fun _ => none) (org W X s) W X s₁ → Room (A.deeper (envOfC qual scope L f cdv)) n →
      wpAny (model prog w) (A.deeper (envOfC qual scope L f cdv)) (execs body (envOfC qual scope L f cdv)) (fun fl s' => R (.ok (.ret (match fl with | .ret v => v | _ => .none))) s') (fun _ _ => False) s₁)
    (hco : scope.isCoroutine = false := by rfl) (hgen : scope.isGenerator = false := by rfl) (hk : scope.kind = .function := by rfl) :
    codeAny (model prog w) A (.call (.ref f) args) R s := by
  have X₀ := G.inH S
  refine codeAny_call_function hr.dep (X₀ _ _ ho) rfl hco hgen rfl (codeRec_of X₀ hcd) (hbind _ _ _ _ ?_)
  refine wpAny_newFunctionEnv_cells hk (kindsX hkind _) fun env' he s' x => ?_
  subst he
  refine ⟨(G.nolimit S).keeps x.toInCall.keep, codeAny_func ?_⟩
  have C : Cur (envOfC qual scope s.heap.objs.size f cdv) (mB binds fun _ => none) (org W X s) W X s' := by
    have hfr : ∀ a, s.heap.objs.size ≤ a → s.heap.get? a = none := fun a ha => by
      cases q : s.heap.get? a with
      | none => rfl
      | some o => exact absurd (Heap.lt_size q) (Nat.not_lt.mpr ha)
    have hW : ∀ a, s.heap.get? a = none → W a = none ∧ a ∉ adr X := fun a ha => by
      refine ⟨?_, fun hm => ?_⟩
      · cases q : W a with
        | none => rfl
        | some o => rw [S.w a o q] at ha; cases ha
      · obtain ⟨o, hm⟩ := mem_adr.mp hm
        rw [S.x a o hm] at ha; cases ha
    have hcl : ∀ y a, (cellsFrom (s.heap.objs.size + 1) scope.names []).lookup y = some a → s.heap.objs.size < a := fun y a hy => x.above y a (mem_of_lookup hy)
    refine ⟨⟨x.toInCall.same, ⟨fun a o e => x.toInCall.keep a o (S.w a o e), fun a o e => x.toInCall.keep a o (S.x a o e), S.xw, S.nd⟩, Le.refl W, fun a o e _ => x.toInCall.keep a o e, fun a o e => .inl e, fun a ha => .inl ha⟩, ⟨⟨_, x.toInCall.ns, fun y hy => mB_loc hy binds _ _ rfl⟩, (hW _ (hfr _ (Nat.le_refl _))).1, (hW _ (hfr _ (Nat.le_refl _))).2, fun y a hy => ?_, fun y z a hy hz => ?_⟩, fun a ha => ?_⟩
    · have q := x.cell y a hy
      have lt := hcl y a hy
      have hy' : scope.names.lookup y ≠ some .local := fun e => by
        have := cellsFrom_kind scope.names (s.heap.objs.size + 1) [] (fun x => scope.names.lookup x = some .cell) (fun _ _ m => nomatch m) (fun z m => by
          have := List.all_eq_true.mp hck _ m
          simpa using this) y a (mem_of_lookup hy)
        rw [this] at e; cases e
      rw [show mB binds (fun _ => none) y = _ from (mB_cel (k := (envOfC qual scope s.heap.objs.size f cdv).kindOf) hy' binds (fun _ => none) (fun _ => none) rfl).symm]
      exact ⟨q, (hW _ (hfr _ (Nat.le_of_lt lt))).1, (hW _ (hfr _ (Nat.le_of_lt lt))).2, Nat.ne_of_gt lt⟩
    · exact name_of_addr x.apart (mem_of_lookup hy) (mem_of_lookup hz)
    · rcases ha with rfl | ⟨y, hy⟩
      · exact .inr (hfr _ (Nat.le_refl _))
      · exact .inr (hfr _ (Nat.le_of_lt (hcl y a hy)))
  exact wpAny_mono (h s.heap.objs.size s' C hr.deeper) (fun _ _ y => y) fun _ _ y => y.elim
end
end
section -- Lr
noncomputable abbrev no : Value → Shared → Prop := fun _ _ => False

/-- a walk from any state that the frame and the ledger know -/
structure Tr {α : Type} (prog : Program) (w : World) (A : Around) (env : Env) (g : Org) (m : Vm) (W : Wd) (X : Led) (t : Sem α) (Q : α → Vm → Wd → Led → Prop) : Prop where
  run : ∀ s, Cur env m g W X s → wpAny (model prog w) A t (fun a s' => ∃ m' W' X', Cur env m' g W' X' s' ∧ Q a m' W' X') no s

/-- what comes behind, under a name -/
structure Hid {α : Type} (Q Q' : α → Vm → Wd → Led → Prop) : Prop where
  u : ∀ a m W X, Q a m W X → Q' a m W X
theorem hid_use {α : Type} {Q Q' : α → Vm → Wd → Led → Prop} {a : α} {m : Vm} {W : Wd} {X : Led} (h : Hid Q Q') (k : Q a m W X) : Q' a m W X := h.u _ _ _ _ k
theorem Hid.rfl {α : Type} {Q : α → Vm → Wd → Led → Prop} : Hid Q Q := ⟨fun _ _ _ _ h => h⟩
theorem Tr.hide {α : Type} {prog : Program} {w : World} {A : Around} {env : Env} {g : Org} {m : Vm} {W : Wd} {X : Led} {t : Sem α} {Q : α → Vm → Wd → Led → Prop} (h : ∀ Q', Hid Q Q' → Tr prog w A env g m W X t Q') : Tr prog w A env g m W X t Q := h Q .rfl

/-! what comes behind, put together without letters -/
section
variable (prog : Program) (w : World) (A : Around) (env : Env) (g : Org)
noncomputable abbrev KNext {α : Type} (Q : Flow → Vm → Wd → Led → Prop) : α → Vm → Wd → Led → Prop := fun _ => Q .next
noncomputable abbrev KRet (Q : Flow → Vm → Wd → Led → Prop) : Value → Vm → Wd → Led → Prop := fun v => Q (.ret v)
noncomputable abbrev KExp (Q : Flow → Vm → Wd → Led → Prop) : Value → Vm → Wd → Led → Prop := fun v m W X => v = .none ∧ Q .next m W X
noncomputable abbrev KNot (Q : Bool → Vm → Wd → Led → Prop) : Bool → Vm → Wd → Led → Prop := fun b => Q (!b)
noncomputable abbrev KBin2 (op : Operator) (a : Value) (Q : Value → Vm → Wd → Led → Prop) : Value → Vm → Wd → Led → Prop := fun b m W X => Tr prog w A env g m W X (binaryOp op a b) Q
noncomputable abbrev KBin (op : Operator) (r : Expr) (Q : Value → Vm → Wd → Led → Prop) : Value → Vm → Wd → Led → Prop := fun a m W X => Tr prog w A env g m W X (eval r env) (KBin2 prog w A env g op a Q)
noncomputable abbrev KCmp2 (op : CmpOp) (a : Value) (Q : Value → Vm → Wd → Led → Prop) : Value → Vm → Wd → Led → Prop := fun b m W X => Tr prog w A env g m W X (compareOp op a b) Q
noncomputable abbrev KCmp (op : CmpOp) (r : Expr) (Q : Value → Vm → Wd → Led → Prop) : Value → Vm → Wd → Led → Prop := fun a m W X => Tr prog w A env g m W X (eval r env) (KCmp2 prog w A env g op a Q)
noncomputable abbrev KUna (op : UnaryOp) (Q : Value → Vm → Wd → Led → Prop) : Value → Vm → Wd → Led → Prop := fun a m W X => Tr prog w A env g m W X (unaryOp op a) Q
noncomputable abbrev KIfe (b o : Expr) (Q : Value → Vm → Wd → Led → Prop) : Bool → Vm → Wd → Led → Prop := fun c m W X => if c = true then Tr prog w A env g m W X (eval b env) Q else Tr prog w A env g m W X (eval o env) Q
noncomputable abbrev KIf (b o : List Stmt) (Q : Flow → Vm → Wd → Led → Prop) : Bool → Vm → Wd → Led → Prop := fun c m W X => if c = true then Tr prog w A env g m W X (execs b env) Q else Tr prog w A env g m W X (execs o env) Q
noncomputable abbrev KSub2 (v i : Expr) (a : Value) (Q : Value → Vm → Wd → Led → Prop) : Value → Vm → Wd → Led → Prop := fun b m W X => Tr prog w A env g m W X (subscriptTail v i a b) Q
noncomputable abbrev KSub (v i : Expr) (Q : Value → Vm → Wd → Led → Prop) : Value → Vm → Wd → Led → Prop := fun a m W X => Tr prog w A env g m W X (eval i env) (KSub2 prog w A env g v i a Q)
noncomputable abbrev KAtt (x : Str) (Q : Value → Vm → Wd → Led → Prop) : Value → Vm → Wd → Led → Prop := fun a m W X => Tr prog w A env g m W X (getAttr a x true) Q
noncomputable abbrev KTup (Q : Value → Vm → Wd → Led → Prop) : List Value → Vm → Wd → Led → Prop := fun vs m W X => Tr prog w A env g m W X (newTuple vs) Q
noncomputable abbrev KLst (Q : Value → Vm → Wd → Led → Prop) : List Value → Vm → Wd → Led → Prop := fun vs m W X => Tr prog w A env g m W X (newList vs) Q
noncomputable abbrev KSp2 (v : Value) (Q : List Value → Vm → Wd → Led → Prop) : List Value → Vm → Wd → Led → Prop := fun vs => Q (v :: vs)
noncomputable abbrev KSp (pos : Pos) (es : List Expr) (Q : List Value → Vm → Wd → Led → Prop) : Value → Vm → Wd → Led → Prop := fun v m W X => Tr prog w A env g m W X (spliced (backTo pos (starEach es env))) (KSp2 v Q)
noncomputable abbrev KTru (Q : Bool → Vm → Wd → Led → Prop) : Value → Vm → Wd → Led → Prop := fun c m W X => Tr prog w A env g m W X (truthy c) Q
noncomputable abbrev KItc2 (op : CmpOp) (a : Value) (Q : Bool → Vm → Wd → Led → Prop) : Value → Vm → Wd → Led → Prop := fun b m W X => Tr prog w A env g m W X (compareOp op a b) (KTru prog w A env g Q)
noncomputable abbrev KItc (op : CmpOp) (r : Expr) (Q : Bool → Vm → Wd → Led → Prop) : Value → Vm → Wd → Led → Prop := fun a m W X => Tr prog w A env g m W X (eval r env) (KItc2 prog w A env g op a Q)
noncomputable abbrev KAnd (r : List Expr) (Q : Bool → Vm → Wd → Led → Prop) : Bool → Vm → Wd → Led → Prop := fun b m W X => if b = true then Tr prog w A env g m W X (allTrue .And r env) Q else Q false m W X
noncomputable abbrev KOr (r : List Expr) (Q : Bool → Vm → Wd → Led → Prop) : Bool → Vm → Wd → Led → Prop := fun b m W X => if b = true then Q true m W X else Tr prog w A env g m W X (allTrue .Or r env) Q
noncomputable abbrev KSto (x : Str) (Q : Flow → Vm → Wd → Led → Prop) : Value → Vm → Wd → Led → Prop := fun v m W X => Tr prog w A env g m W X (storeName env x v) (KNext Q)
noncomputable abbrev KAsa2 (x : Str) (v : Value) (Q : Flow → Vm → Wd → Led → Prop) : Value → Vm → Wd → Led → Prop := fun o m W X => Tr prog w A env g m W X (setAttr o x v) (KNext Q)
noncomputable abbrev KAsa (o : Expr) (x : Str) (Q : Flow → Vm → Wd → Led → Prop) : Value → Vm → Wd → Led → Prop := fun v m W X => Tr prog w A env g m W X (eval o env) (KAsa2 prog w A env g x v Q)
noncomputable abbrev KAss3 (v o : Value) (Q : Flow → Vm → Wd → Led → Prop) : Value → Vm → Wd → Led → Prop := fun i m W X => Tr prog w A env g m W X (setItem o i v) (KNext Q)
noncomputable abbrev KAss2 (i : Expr) (v : Value) (Q : Flow → Vm → Wd → Led → Prop) : Value → Vm → Wd → Led → Prop := fun o m W X => Tr prog w A env g m W X (eval i env) (KAss3 prog w A env g v o Q)
noncomputable abbrev KAss (o i : Expr) (Q : Flow → Vm → Wd → Led → Prop) : Value → Vm → Wd → Led → Prop := fun v m W X => Tr prog w A env g m W X (eval o env) (KAss2 prog w A env g i v Q)
noncomputable abbrev KAst (es : List Expr) (k : Nat) (tp : Pos) (Q : Flow → Vm → Wd → Led → Prop) : Value → Vm → Wd → Led → Prop := fun v m W X => Tr prog w A env g m W X (assign (.Tuple es k tp) env v) (KNext Q)
noncomputable abbrev KSt1 (x : Str) (v : Value) (Q : Unit → Vm → Wd → Led → Prop) : Unit → Vm → Wd → Led → Prop := fun _ m W X => Tr prog w A env g m W X (storeName env x v) Q
end
/-- what a call gives -/
structure Cl (prog : Program) (w : World) (A : Around) (W : Wd) (X : Led) (f : Value) (args : List Value) (Q : Value → Wd → Led → Prop) : Prop where
  run : ∀ s, St W X s.heap → codeAny (model prog w) A (.call f ⟨args, []⟩) (fun r s' => ∃ v W' X', r = .ok (.ret v) ∧ Adv (org W X s) W' X' s' ∧ Q v W' X') s

section
variable {α β : Type} {prog : Program} {w : World} {A : Around} {env : Env} {g : Org} {m : Vm} {W : Wd} {X : Led}

theorem Tr.go {t : Sem α} {P : α → Vm → Wd → Led → Prop} (h : Tr prog w A env g m W X t P) {s : Shared} (C : Cur env m g W X s) {Q : α → Shared → Prop}
    (k : ∀ a s' m' W' X', Cur env m' g W' X' s' → P a m' W' X' → Q a s') : wpAny (model prog w) A t Q no s :=
  wpAny_mono (h.run s C) (fun a s' ⟨m', W', X', C', p⟩ => k a s' m' W' X' C' p) fun _ _ x => x
theorem Tr.mono {t : Sem α} {P Q : α → Vm → Wd → Led → Prop} (h : Tr prog w A env g m W X t P) (k : ∀ a m' W' X', P a m' W' X' → Q a m' W' X') : Tr prog w A env g m W X t Q :=
  .mk fun _ C => h.go C fun _ _ _ _ _ C' p => ⟨_, _, _, C', k _ _ _ _ p⟩
theorem Tr.pure {a : α} {Q : α → Vm → Wd → Led → Prop} (h : Q a m W X) : Tr prog w A env g m W X (pure a) Q := .mk fun _ C => wpAny_pure ⟨m, W, X, C, h⟩
theorem Tr.bind {t : Sem α} {f : α → Sem β} {Q : β → Vm → Wd → Led → Prop} (h : Tr prog w A env g m W X t fun a m' W' X' => Tr prog w A env g m' W' X' (f a) Q) : Tr prog w A env g m W X (t >>= f) Q :=
  .mk fun _ C => wpAny_bind (h.go C fun _ s' _ _ _ C' p => p.run s' C')
/-- X' in the place of X: a part, or another order -/
theorem Tr.drop {t : Sem α} {Q : α → Vm → Wd → Led → Prop} {X' : Led} (h : Tr prog w A env g m W X' t Q) (hs : ∀ p ∈ X', p ∈ X) (hn : (adr X).Nodup → (adr X').Nodup) : Tr prog w A env g m W X t Q :=
  .mk fun s C => h.run s (C.drop hs (hn C.adv.st.nd))
/-- an object of X is frozen -/
theorem Tr.freeze {t : Sem α} {Q : α → Vm → Wd → Led → Prop} {a : Addr} {o : Obj} (h : ∀ W', W' a = some o → Le W W' → Tr prog w A env g m W' X t Q) : Tr prog w A env g m W ((a, o) :: X) t Q :=
  .mk fun s C => (h _ put_same (put_le C.freeze.2)).run s C.freeze.1
theorem Tr.nd {t : Sem α} {Q : α → Vm → Wd → Led → Prop} (h : (adr X).Nodup → (∀ a ∈ adr X, W a = none) → Tr prog w A env g m W X t Q) : Tr prog w A env g m W X t Q :=
  .mk fun s C => (h C.adv.st.nd (fun a ha => by obtain ⟨o, hm⟩ := mem_adr.mp ha; exact C.adv.st.xw a o hm)).run s C

/-- a call by its contract, a part of X alone turning -/
theorem Tr.callG {f : Value} {args : List Value} {Q : Value → Vm → Wd → Led → Prop} {Xp Xr : Led} {P : Value → Wd → Led → Prop} (h : Cl prog w A W Xp f args P)
    (k : ∀ (Gq : Value → Led → Prop) W' v Xp', Le W W' → (∀ v Xp', Imp (Q v m W' (Xp' ++ Xr)) (Gq v Xp')) → P v W' Xp' → Gq v Xp') : Tr prog w A env g m W (Xp ++ Xr) (call f args) Q := .mk fun s C => by
  refine wpAny_call (codeAny_mono (h.run s (C.adv.st.perm (fun p hp => List.mem_append_left _ hp) ?_)) fun r s' hr => ?_)
  · have := C.adv.st.nd
    rw [adr_append] at this
    exact (List.nodup_append.mp this).1
  · obtain ⟨v, W', Xp', rfl, D, p⟩ := hr
    exact ⟨m, W', Xp' ++ Xr, C.part D, k _ W' v Xp' D.sub (fun _ _ h => h) p⟩
theorem Tr.call {f : Value} {args : List Value} {Q : Value → Vm → Wd → Led → Prop} {Xp Xr : Led} {P : Value → Wd → Led → Prop} (h : Cl prog w A W Xp f args P)
    (k : ∀ v W' Xp', Le W W' → P v W' Xp' → Q v m W' (Xp' ++ Xr)) : Tr prog w A env g m W (Xp ++ Xr) (call f args) Q := Tr.callG h fun _ W' v Xp' le hG p => hG _ _ (k v W' Xp' le p)

/-! expressions -/
variable {Q : Value → Vm → Wd → Led → Prop}

theorem ev_loc {x : Str} {pos : Pos} {v : Value} (hk : env.scope.kind = .function) (hl : env.kindOf x = some .local) (hd : (x == ("__debug__" : Str)) = false) (hv : m x = some v) (h : Q v m W X) :
    Tr prog w A env g m W X (eval (.Name x pos) env) Q := .mk fun _ C => nm_loc C hk hl hd hv ⟨_, _, _, C, h⟩
theorem ev_cel {x : Str} {pos : Pos} {v : Value} {c : Addr} (hk : env.scope.kind = .function) (hl : env.kindOf x = some .cell) (hc : env.cells.lookup x = some c) (hd : (x == ("__debug__" : Str)) = false) (hv : m x = some v) (h : Q v m W X) :
    Tr prog w A env g m W X (eval (.Name x pos) env) Q := .mk fun _ C => nm_cel C hk hl hc hd hv ⟨_, _, _, C, h⟩
theorem ev_fre {x : Str} {pos : Pos} {v : Value} {c : Addr} (hk : env.scope.kind = .function) (hl : env.kindOf x = some .free) (hc : env.cells.lookup x = some c) (hd : (x == ("__debug__" : Str)) = false) (hn : (x == ("__classdict__" : Str)) = false) (hv : m x = some v) (h : Q v m W X) :
    Tr prog w A env g m W X (eval (.Name x pos) env) Q := .mk fun _ C => nm_fre C hk hl hc hd hn hv ⟨_, _, _, C, h⟩
theorem ev_glb {K : Frag} {x : Str} {pos : Pos} {v : Value} (G : GW w K W) (hk : env.scope.kind = .function) (hl : env.kindOf x = some .globalImplicit) (hg : env.globals = mainGlobals) (hd : (x == ("__debug__" : Str)) = false)
    (e : nsIn K mainGlobals x = some (some v)) (h : Q v m W X) : Tr prog w A env g m W X (eval (.Name x pos) env) Q := .mk fun s C => by
  refine und fun Gq hGq => ?_
  obtain ⟨h₀, p, loose, mean, mg, mb, X₀, T, hw⟩ := G.ex
  refine hGq ?_
  clear hGq Gq
  exact Name_function_global hk hl (loadGlobal_global (env := env) (by rw [hg]; exact T.g.keeps fun a o q => C.adv.st.w a o (hw a o q)) (mg_of X₀ T.g e) ⟨_, _, _, C, h⟩) hd
theorem ev_bui {K : Frag} {x : Str} {pos : Pos} {v : Value} (G : GW w K W) (hk : env.scope.kind = .function) (hl : env.kindOf x = some .globalImplicit) (hg : env.globals = mainGlobals) (hb : env.builtins = builtinsNs) (hd : (x == ("__debug__" : Str)) = false)
    (e : nsIn K mainGlobals x = some none) (hv : bootBuiltins x = some v) (hn : x ≠ "__name__") (h : Q v m W X) : Tr prog w A env g m W X (eval (.Name x pos) env) Q := .mk fun s C => by
  refine und fun Gq hGq => ?_
  obtain ⟨h₀, p, loose, mean, mg, mb, X₀, T, hw⟩ := G.ex
  refine hGq ?_
  clear hGq Gq
  have up : ∀ a o, h₀.get? a = some o → s.heap.get? a = some o := fun a o q => C.adv.st.w a o (hw a o q)
  exact Name_function_global hk hl (loadGlobal_builtin (env := env) (by rw [hg]; exact T.g.keeps up) (mg_none_of X₀ T.g e) (by rw [hb]; exact T.b.keeps up) ((T.builtins x hn).trans hv) ⟨_, _, _, C, h⟩) hd
theorem ev_int {i : Int} {k : Nat} {pos : Pos} (h : ∀ t, Q (.int i t) m W X) : Tr prog w A env g m W X (eval (.Constant (.int i) k pos) env) Q := .mk fun _ C => wpAny_Constant_int ⟨_, _, _, C.toks _, h _⟩
theorem ev_str {x : Str} {k : Nat} {pos : Pos} (h : ∀ t, Q (.str x t) m W X) : Tr prog w A env g m W X (eval (.Constant (.str x) k pos) env) Q := .mk fun _ C => wpAny_Constant_str ⟨_, _, _, C.toks _, h _⟩
theorem ev_bool {b : Bool} {k : Nat} {pos : Pos} (h : Q (.bool b) m W X) : Tr prog w A env g m W X (eval (.Constant (.bool b) k pos) env) Q := .mk fun _ C => wpAny_Constant_bool ⟨_, _, _, C, h⟩
theorem ev_none {k : Nat} {pos : Pos} (h : Q .none m W X) : Tr prog w A env g m W X (eval (.Constant .none k pos) env) Q := .mk fun _ C => wpAny_Constant_none ⟨_, _, _, C, h⟩
theorem ev_bin {l r : Expr} {op : Operator} {pos : Pos} (h : Tr prog w A env g m W X (eval l env) (KBin prog w A env g op r Q)) :
    Tr prog w A env g m W X (eval (.BinOp l op r pos) env) Q := .mk fun _ C => wpAny_BinOp (h.go C fun _ _ _ _ _ C₁ h₁ => h₁.go C₁ fun _ s₂ _ _ _ C₂ h₂ => h₂.run s₂ C₂)
theorem ev_cmp {l r : Expr} {op : CmpOp} {pos : Pos} (hm : behindInMarks op r = false) (h : Tr prog w A env g m W X (eval l env) (KCmp prog w A env g op r Q)) :
    Tr prog w A env g m W X (eval (.Compare l [op] [r] pos) env) Q := .mk fun _ C => wpAny_Compare1 (h.go C fun _ _ _ _ _ C₁ h₁ => h₁.go C₁ fun _ s₂ _ _ _ C₂ h₂ => h₂.run s₂ C₂) hm
theorem ev_una {x : Expr} {op : UnaryOp} {pos : Pos} (h : Tr prog w A env g m W X (eval x env) (KUna prog w A env g op Q)) :
    Tr prog w A env g m W X (eval (.UnaryOp op x pos) env) Q := .mk fun _ C => wpAny_UnaryOp (h.go C fun _ s₁ _ _ _ C₁ h₁ => h₁.run s₁ C₁)
theorem ev_ife {t b o : Expr} {pos : Pos} (h : Tr prog w A env g m W X (isTrue t env (eval t env)) (KIfe prog w A env g b o Q)) :
    Tr prog w A env g m W X (eval (.IfExp t b o pos) env) Q := .mk fun _ C => wpAny_IfExp (h.go C fun c s₁ _ _ _ C₁ h₁ => by cases c <;> exact h₁.run s₁ C₁)
theorem ev_sub {v i : Expr} {pos : Pos} (h : Tr prog w A env g m W X (eval v env) (KSub prog w A env g v i Q)) :
    Tr prog w A env g m W X (eval (.Subscript v i pos) env) Q := .mk fun _ C => Subscript_ (h.go C fun _ _ _ _ _ C₁ h₁ => h₁.go C₁ fun _ s₂ _ _ _ C₂ h₂ => h₂.run s₂ C₂)
theorem ev_att {v : Expr} {x : Str} {pos : Pos} (he : eval (.Attribute v x pos) env = (do let o ← eval v env; standAt (Pos.atName pos); let r ← holding [o] (getAttr o x true); letTemporaryGo v o r; pure r))
    (h : Tr prog w A env g m W X (eval v env) (KAtt prog w A env g x Q)) :
    Tr prog w A env g m W X (eval (.Attribute v x pos) env) Q := .mk fun _ C => Attribute_any_ (h.go C fun _ s₁ _ _ _ C₁ h₁ => h₁.run s₁ C₁) he
theorem ev_tup {es : List Expr} {k : Nat} {pos : Pos} (h : Tr prog w A env g m W X (spliced (backTo pos (starEach es env))) (KTup prog w A env g Q)) : Tr prog w A env g m W X (eval (.Tuple es k pos) env) Q :=
  .mk fun _ C => Tuple_ (h.go C fun _ s₁ _ _ _ C₁ h₁ => h₁.run s₁ C₁)
theorem ev_lst {es : List Expr} {pos : Pos} (h : Tr prog w A env g m W X (spliced (backTo pos (starEach es env))) (KLst prog w A env g Q)) : Tr prog w A env g m W X (eval (.List es pos) env) Q :=
  .mk fun _ C => List_ (h.go C fun _ s₁ _ _ _ C₁ h₁ => h₁.run s₁ C₁)

theorem sp_nil {pos : Pos} {Q : List Value → Vm → Wd → Led → Prop} (h : Q [] m W X) : Tr prog w A env g m W X (spliced (backTo pos (starEach [] env))) Q := .mk fun _ C => wpAny_items_nil ⟨_, _, _, C, h⟩
theorem sp_cons {pos : Pos} {e : Expr} {es : List Expr} {Q : List Value → Vm → Wd → Led → Prop} (he : starEach (e :: es) env = (false, eval e env) :: starEach es env)
    (h : Tr prog w A env g m W X (eval e env) (KSp prog w A env g pos es Q)) :
    Tr prog w A env g m W X (spliced (backTo pos (starEach (e :: es) env))) Q := .mk fun _ C => wpAny_items_cons (h.go C fun _ _ _ _ _ C₁ h₁ => h₁.go C₁ fun _ _ _ _ _ C₂ h₂ => ⟨_, _, _, C₂, h₂⟩) he

/-- a new tuple | list, kept apart in X -/
theorem nw_tup {vs : List Value} (hz : vs.length ≤ sizeLine) (h : ∀ a, W a = none → a ∉ adr X → Q (.ref a) m W ((a, { cls := .type "tuple", data := .seq vs.toArray }) :: X)) : Tr prog w A env g m W X (newTuple vs) Q := .mk fun s C => by
  have P := C.push { cls := .type "tuple", data := .seq vs.toArray }
  have nd := P.adv.st.nd
  rw [adr_cons] at nd
  exact wpAny_newObj_type ⟨_, _, _, P, h _ (P.adv.st.xw _ _ List.mem_cons_self) (List.nodup_cons.mp nd).1⟩ (by show vs.toArray.size ≤ sizeLine; rw [List.size_toArray]; exact hz)
theorem nw_lst {vs : List Value} (hz : vs.length ≤ sizeLine) (h : ∀ a, W a = none → a ∉ adr X → Q (.ref a) m W ((a, { cls := .type "list", data := .seq vs.toArray }) :: X)) : Tr prog w A env g m W X (newList vs) Q := .mk fun s C => by
  have P := C.push { cls := .type "list", data := .seq vs.toArray }
  have nd := P.adv.st.nd
  rw [adr_cons] at nd
  exact wpAny_newObj_type ⟨_, _, _, P, h _ (P.adv.st.xw _ _ List.mem_cons_self) (List.nodup_cons.mp nd).1⟩ (by show vs.toArray.size ≤ sizeLine; rw [List.size_toArray]; exact hz)
/-- frozen at once -/
theorem nw_tupW {vs : List Value} (hz : vs.length ≤ sizeLine) (h : ∀ a W', W' a = some { cls := .type "tuple", data := .seq vs.toArray } → Le W W' → Q (.ref a) m W' X) : Tr prog w A env g m W X (newTuple vs) Q := .mk fun s C =>
  wpAny_newObj_type ⟨_, _, _, (C.pushW _).1, h _ _ put_same (put_le (C.pushW { cls := .type "tuple", data := .seq vs.toArray }).2)⟩ (by show vs.toArray.size ≤ sizeLine; rw [List.size_toArray]; exact hz)
theorem nw_lstW {vs : List Value} (hz : vs.length ≤ sizeLine) (h : ∀ a W', W' a = some { cls := .type "list", data := .seq vs.toArray } → Le W W' → Q (.ref a) m W' X) : Tr prog w A env g m W X (newList vs) Q := .mk fun s C =>
  wpAny_newObj_type ⟨_, _, _, (C.pushW _).1, h _ _ put_same (put_le (C.pushW { cls := .type "list", data := .seq vs.toArray }).2)⟩ (by show vs.toArray.size ≤ sizeLine; rw [List.size_toArray]; exact hz)

/-! truth -/
section
variable {Q : Bool → Vm → Wd → Led → Prop}
theorem tr_bool {b : Bool} (h : Q b m W X) : Tr prog w A env g m W X (truthy (.bool b)) Q := .mk fun _ C => wpAny_truthy_bool ⟨_, _, _, C, h⟩
theorem it_cmp {l r : Expr} {op : CmpOp} {pos : Pos} {whole : Sem Value} (hm : behindInMarks op r = false) (h : Tr prog w A env g m W X (eval l env) (KItc prog w A env g op r Q)) :
    Tr prog w A env g m W X (isTrue (.Compare l [op] [r] pos) env whole) Q := .mk fun _ C => wpAny_isTrue_Compare1 (h.go C fun _ _ _ _ _ C₁ h₁ => h₁.go C₁ fun _ _ _ _ _ C₂ h₂ => h₂.go C₂ fun _ s₃ _ _ _ C₃ h₃ => h₃.run s₃ C₃) hm
theorem it_not {x : Expr} {pos : Pos} {whole : Sem Value} (h : Tr prog w A env g m W X (isTrue x env (eval x env)) (KNot Q)) : Tr prog w A env g m W X (isTrue (.UnaryOp .Not x pos) env whole) Q :=
  .mk fun _ C => wpAny_isTrue_Not (h.go C fun _ _ _ _ _ C₁ h₁ => ⟨_, _, _, C₁, h₁⟩)
theorem it_bo {op : BoolOp} {vs : List Expr} {pos : Pos} {whole : Sem Value} (h : Tr prog w A env g m W X (allTrue op vs env) Q) : Tr prog w A env g m W X (isTrue (.BoolOp op vs pos) env whole) Q := .mk fun s C => wpAny_isTrue_BoolOp (h.run s C)
theorem at_nil (h : Q true m W X) : Tr prog w A env g m W X (allTrue .And [] env) Q := .mk fun _ C => wpAny_allTrue_And_nil ⟨_, _, _, C, h⟩
theorem ot_nil (h : Q false m W X) : Tr prog w A env g m W X (allTrue .Or [] env) Q := .mk fun _ C => wpAny_allTrue_Or_nil ⟨_, _, _, C, h⟩
theorem at_cons {x : Expr} {r : List Expr} (h : Tr prog w A env g m W X (isTrue x env (eval x env)) (KAnd prog w A env g r Q)) : Tr prog w A env g m W X (allTrue .And (x :: r) env) Q :=
  .mk fun _ C => wpAny_allTrue_And_cons (h.go C fun b s₁ _ _ _ C₁ h₁ => by
    cases b
    · exact ⟨_, _, _, C₁, h₁⟩
    · exact h₁.run s₁ C₁)
theorem ot_cons {x : Expr} {r : List Expr} (h : Tr prog w A env g m W X (isTrue x env (eval x env)) (KOr prog w A env g r Q)) : Tr prog w A env g m W X (allTrue .Or (x :: r) env) Q :=
  .mk fun _ C => wpAny_allTrue_Or_cons (h.go C fun b s₁ _ _ _ C₁ h₁ => by
    cases b
    · exact h₁.run s₁ C₁
    · exact ⟨_, _, _, C₁, h₁⟩)
theorem it_val {e : Expr} {whole : Sem Value} (he : isTrue e env whole = (do let v ← whole; standAt e.pos; holding [v] (truthy v))) (h : Tr prog w A env g m W X whole (KTru prog w A env g Q)) : Tr prog w A env g m W X (isTrue e env whole) Q :=
  .mk fun _ C => wpAny_isTrue_value (h.go C fun _ s₁ _ _ _ C₁ h₁ => h₁.run s₁ C₁) he
end

/-! statements -/
section
variable {Q : Flow → Vm → Wd → Led → Prop}
theorem ex_nil (h : Q .next m W X) : Tr prog w A env g m W X (execs [] env) Q := .mk fun _ C => wpAny_execs_nil ⟨_, _, _, C, h⟩
/-- what comes behind a statement -/
noncomputable def Then (prog : Program) (w : World) (A : Around) (env : Env) (g : Org) (rest : List Stmt) (Q : Flow → Vm → Wd → Led → Prop) (f : Flow) (m : Vm) (W : Wd) (X : Led) : Prop := match f with
  | .next => Tr prog w A env g m W X (execs rest env) Q
  | f => Q f m W X
theorem ex_cons {st : Stmt} {rest : List Stmt} (h : Tr prog w A env g m W X (exec st env) (Then prog w A env g rest Q)) : Tr prog w A env g m W X (execs (st :: rest) env) Q :=
  .mk fun _ C => wpAny_execs_cons (h.go C fun f s₁ _ _ _ C₁ h₁ => by cases f <;> first | exact h₁.run s₁ C₁ | exact ⟨_, _, _, C₁, h₁⟩)
theorem th_next {rest : List Stmt} (h : Tr prog w A env g m W X (execs rest env) Q) : Then prog w A env g rest Q .next m W X := h
theorem th_ret {rest : List Stmt} {v : Value} (h : Q (.ret v) m W X) : Then prog w A env g rest Q (.ret v) m W X := h
theorem th_cont {rest : List Stmt} (h : Q .cont m W X) : Then prog w A env g rest Q .cont m W X := h
theorem ex_asg {x : Str} {p' pos : Pos} {value : Expr} (hs : swapsWith value (some (.Name x p')) pos.line env = pure false) (h : Tr prog w A env g m W X (eval value env) (KSto prog w A env g x Q)) :
    Tr prog w A env g m W X (exec (.Assign [.Name x p'] value pos) env) Q := .mk fun _ C => wpAny_Assign_Name (h.go C fun _ _ _ _ _ C₁ h₁ => h₁.go C₁ fun _ _ _ _ _ C₂ h₂ => ⟨_, _, _, C₂, h₂⟩) hs
theorem ex_asgA {o value : Expr} {x : Str} {p' pos : Pos} (hs : swapsWith value (some (.Attribute o x p')) pos.line env = pure false)
    (h : Tr prog w A env g m W X (eval value env) (KAsa prog w A env g o x Q)) :
    Tr prog w A env g m W X (exec (.Assign [.Attribute o x p'] value pos) env) Q := .mk fun _ C => plainObj_wpAny_Assign_Attribute (h.go C fun _ _ _ _ _ C₁ h₁ => h₁.go C₁ fun _ _ _ _ _ C₂ h₂ => h₂.go C₂ fun _ _ _ _ _ C₃ h₃ => ⟨_, _, _, C₃, h₃⟩) hs
theorem ex_asgS {o i value : Expr} {p' pos : Pos} (hs : swapsWith value (some (.Subscript o i p')) pos.line env = pure false)
    (h : Tr prog w A env g m W X (eval value env) (KAss prog w A env g o i Q)) :
    Tr prog w A env g m W X (exec (.Assign [.Subscript o i p'] value pos) env) Q := .mk fun _ C => wpAny_Assign_Subscript (h.go C fun _ _ _ _ _ C₁ h₁ => h₁.go C₁ fun _ _ _ _ _ C₂ h₂ => h₂.go C₂ fun _ _ _ _ _ C₃ h₃ => h₃.go C₃ fun _ _ _ _ _ C₄ h₄ => ⟨_, _, _, C₄, h₄⟩) hs
theorem ex_if {test : Expr} {b o : List Stmt} {pos : Pos} (h : Tr prog w A env g m W X (isTrue test env (eval test env)) (KIf prog w A env g b o Q)) :
    Tr prog w A env g m W X (exec (.If test b o pos) env) Q := .mk fun _ C => wpAny_If (h.go C fun c s₁ _ _ _ C₁ h₁ => by cases c <;> exact h₁.run s₁ C₁)
theorem ex_ret {e : Expr} {pos : Pos} (h : Tr prog w A env g m W X (eval e env) (KRet Q)) : Tr prog w A env g m W X (exec (.Return (some e) pos) env) Q := .mk fun _ C => wpAny_Return_some (h.go C fun _ _ _ _ _ C₁ h₁ => ⟨_, _, _, C₁, h₁⟩)
theorem ex_ret0 {pos : Pos} (h : Q (.ret .none) m W X) : Tr prog w A env g m W X (exec (.Return none pos) env) Q := .mk fun _ C => wpAny_Return_none ⟨_, _, _, C, h⟩
theorem ex_cont {pos : Pos} (h : Q .cont m W X) : Tr prog w A env g m W X (exec (.Continue pos) env) Q := .mk fun _ C => wpAny_Continue ⟨_, _, _, C, h⟩
theorem ex_expr {e : Expr} {pos : Pos} (hi : interactive env = false) (hs : swapsWith e none pos.line env = pure false) (h : Tr prog w A env g m W X (eval e env) (KExp Q)) :
    Tr prog w A env g m W X (exec (.Expr e pos) env) Q := .mk fun _ C => wpAny_Expr (h.go C fun v _ _ _ _ C₁ h₁ => by obtain ⟨rfl, h₁⟩ := h₁; exact ⟨_, _, _, C₁, h₁⟩) hi hs
theorem ex_asgT {es : List Expr} {k : Nat} {tp pos : Pos} {value : Expr} (hs : swapsWithSole [.Tuple es k tp] value pos.line env = pure false) (hw : swappedStores [.Tuple es k tp] value env = pure none)
    (h : Tr prog w A env g m W X (eval value env) (KAst prog w A env g es k tp Q)) :
    Tr prog w A env g m W X (exec (.Assign [.Tuple es k tp] value pos) env) Q := .mk fun _ C => Assign_Tuple (h.go C fun _ _ _ _ _ C₁ h₁ => h₁.go C₁ fun _ _ _ _ _ C₂ h₂ => ⟨_, _, _, C₂, h₂⟩) hs hw
end
theorem as_name {x : Str} {pos : Pos} {v : Value} {Q : Unit → Vm → Wd → Led → Prop} (h : Tr prog w A env g m W X (storeName env x v) Q) : Tr prog w A env g m W X (assign (.Name x pos) env v) Q := .mk fun s C => wpAny_assign_Name (h.run s C)
theorem so_loc {x : Str} {v : Value} {Q : Unit → Vm → Wd → Led → Prop} (hk : env.scope.kind = .function) (hl : env.kindOf x = some .local) (hc : env.cells.lookup x = none) (h : Q () (upd m x v) W X) : Tr prog w A env g m W X (storeName env x v) Q :=
  .mk fun _ C => st_loc C hk hl hc fun _ C' => ⟨_, _, _, C', h⟩
theorem so_cel {x : Str} {v : Value} {c : Addr} {Q : Unit → Vm → Wd → Led → Prop} (hk : env.scope.kind = .function) (hl : env.kindOf x = some .cell) (hc : env.cells.lookup x = some c) (h : Q () (upd m x v) W X) : Tr prog w A env g m W X (storeName env x v) Q :=
  .mk fun _ C => st_cel C hk hl hc fun _ C' => ⟨_, _, _, C', h⟩

/-! ints -/
theorem bo_add {a b : Int} {t u : Tok} (h : ∀ t, Q (.int (a + b) t) m W X) : Tr prog w A env g m W X (binaryOp .Add (.int a t) (.int b u)) Q := .mk fun _ C => add_int ⟨_, _, _, C.toks _, h _⟩
theorem bo_mod {a b : Int} {t u : Tok} (hb : b ≠ 0) (h : ∀ t, Q (.int (Int.fmod a b) t) m W X) : Tr prog w A env g m W X (binaryOp .Mod (.int a t) (.int b u)) Q := .mk fun _ C => mod_int' hb ⟨_, _, _, C.toks _, h _⟩
theorem co_eq {a b : Int} {t u : Tok} (h : Q (.bool (a == b)) m W X) : Tr prog w A env g m W X (compareOp .Eq (.int a t) (.int b u)) Q := .mk fun _ C => eq_int ⟨_, _, _, C, h⟩
theorem bo_sub {a b : Int} {t u : Tok} (h : ∀ t, Q (.int (a - b) t) m W X) : Tr prog w A env g m W X (binaryOp .Sub (.int a t) (.int b u)) Q := .mk fun _ C => PyProof.Rows.sub_int ⟨_, _, _, C.toks _, h _⟩
theorem bo_mul {a b : Int} {t u : Tok} (hm : IntMulOk a b) (h : ∀ t, Q (.int (a * b) t) m W X) : Tr prog w A env g m W X (binaryOp .Mult (.int a t) (.int b u)) Q := .mk fun _ C => PyProof.Rows.mul_int ⟨_, _, _, C.toks _, h _⟩ hm
theorem bo_div {a b : Int} {t u : Tok} (hb : b ≠ 0) (hp : Builtin.divisionGoesByPylong a b = false) (h : ∀ t, Q (.int (Int.fdiv a b) t) m W X) : Tr prog w A env g m W X (binaryOp .FloorDiv (.int a t) (.int b u)) Q := .mk fun _ C => floordiv_int hb ⟨_, _, _, C.toks _, h _⟩ (.inl hp)
theorem co_ne {a b : Int} {t u : Tok} (h : Q (.bool (a != b)) m W X) : Tr prog w A env g m W X (compareOp .NotEq (.int a t) (.int b u)) Q := .mk fun _ C => PyProof.Rows.ne_int ⟨_, _, _, C, h⟩
theorem co_lt {a b : Int} {t u : Tok} (h : Q (.bool (decide (a < b))) m W X) : Tr prog w A env g m W X (compareOp .Lt (.int a t) (.int b u)) Q := .mk fun _ C => PyProof.Rows.lt_int ⟨_, _, _, C, h⟩
theorem co_le {a b : Int} {t u : Tok} (h : Q (.bool (decide (a ≤ b))) m W X) : Tr prog w A env g m W X (compareOp .LtE (.int a t) (.int b u)) Q := .mk fun _ C => PyProof.Rows.le_int ⟨_, _, _, C, h⟩
theorem co_gt {a b : Int} {t u : Tok} (h : Q (.bool (decide (b < a))) m W X) : Tr prog w A env g m W X (compareOp .Gt (.int a t) (.int b u)) Q := .mk fun _ C => PyProof.Rows.gt_int ⟨_, _, _, C, h⟩
theorem co_ge {a b : Int} {t u : Tok} (h : Q (.bool (decide (b ≤ a))) m W X) : Tr prog w A env g m W X (compareOp .GtE (.int a t) (.int b u)) Q := .mk fun _ C => PyProof.Rows.ge_int ⟨_, _, _, C, h⟩
theorem uo_neg {a : Int} {t : Tok} (h : ∀ t, Q (.int (-a) t) m W X) : Tr prog w A env g m W X (unaryOp .USub (.int a t)) Q := .mk fun _ C => PyProof.Rows.neg_int ⟨_, _, _, C.toks _, h _⟩
theorem co_is {v : Value} (h : Q (.bool (v == .none)) m W X) : Tr prog w A env g m W X (compareOp .Is v .none) Q := .mk fun _ C => is_none ⟨_, _, _, C, h⟩
end
end
section -- Lq
/-! what an object is -/
inductive LstO (o : Obj) (vs : List Value) : Prop
  | mk (h1 : o.cls = .type "list") (n) (h2 : o.data = .seq vs.toArray n) : LstO o vs
inductive TupO (o : Obj) (vs : List Value) : Prop
  | mk (h1 : o.cls = .type "tuple") (n) (h2 : o.data = .seq vs.toArray n) : TupO o vs
theorem lstO (vs : List Value) : LstO { cls := .type "list", data := .seq vs.toArray } vs := ⟨rfl, _, rfl⟩
theorem tupO (vs : List Value) : TupO { cls := .type "tuple", data := .seq vs.toArray } vs := ⟨rfl, _, rfl⟩
noncomputable def Has (W : Wd) (X : Led) (a : Addr) (o : Obj) : Prop := W a = some o ∨ (a, o) ∈ X
inductive LstW (W : Wd) (a : Addr) (vs : List Value) : Prop
  | mk (o) (h1 : W a = some o) (h2 : LstO o vs) : LstW W a vs
inductive TupW (W : Wd) (a : Addr) (vs : List Value) : Prop
  | mk (o) (h1 : W a = some o) (h2 : TupO o vs) : TupW W a vs
theorem LstW.up {W W' : Wd} {a : Addr} {vs : List Value} (x : LstW W a vs) (h : Le W W') : LstW W' a vs := let ⟨o, e, r⟩ := x; ⟨o, h _ _ e, r⟩
theorem TupW.up {W W' : Wd} {a : Addr} {vs : List Value} (x : TupW W a vs) (h : Le W W') : TupW W' a vs := let ⟨o, e, r⟩ := x; ⟨o, h _ _ e, r⟩
theorem lstW_new {W : Wd} {a : Addr} {vs : List Value} (h : W a = some { cls := .type "list", data := .seq vs.toArray }) : LstW W a vs := ⟨_, h, lstO vs⟩
theorem tupW_new {W : Wd} {a : Addr} {vs : List Value} (h : W a = some { cls := .type "tuple", data := .seq vs.toArray }) : TupW W a vs := ⟨_, h, tupO vs⟩
/-- a list, a tuple: in the world or in X -/
inductive LstX (W : Wd) (X : Led) (a : Addr) (vs : List Value) : Prop
  | mk (o) (h1 : Has W X a o) (h2 : LstO o vs) : LstX W X a vs
inductive TupX (W : Wd) (X : Led) (a : Addr) (vs : List Value) : Prop
  | mk (o) (h1 : Has W X a o) (h2 : TupO o vs) : TupX W X a vs
theorem LstW.x {W : Wd} {X : Led} {a : Addr} {vs : List Value} (h : LstW W a vs) : LstX W X a vs := let ⟨o, e, r⟩ := h; ⟨o, .inl e, r⟩
theorem TupW.x {W : Wd} {X : Led} {a : Addr} {vs : List Value} (h : TupW W a vs) : TupX W X a vs := let ⟨o, e, r⟩ := h; ⟨o, .inl e, r⟩

section
variable {prog : Program} {w : World} {A : Around} {env : Env} {g : Org} {m : Vm} {W : Wd} {X : Led} {s : Shared}
theorem St.has (S : St W X s.heap) {a : Addr} {o : Obj} (h : Has W X a o) : s.heap.get? a = some o := h.elim (S.w a o) (S.x a o)
theorem St.lst (S : St W X s.heap) {a : Addr} {vs : List Value} (h : LstX W X a vs) : s.heap.IsList a vs.toArray := let ⟨o, e, c, n, d⟩ := h; ⟨o, S.has e, c, n, d⟩
theorem St.tup (S : St W X s.heap) {a : Addr} {vs : List Value} (h : TupX W X a vs) : IsTup s.heap a vs.toArray := let ⟨o, e, c, n, d⟩ := h; ⟨o, S.has e, c, n, d⟩
theorem IsList.lstO {h : Heap} {a : Addr} {vs : List Value} (x : h.IsList a vs.toArray) : ∃ o, h.get? a = some o ∧ LstO o vs := let ⟨o, e, c, n, d⟩ := x; ⟨o, e, c, n, d⟩

theorem ite_dec {p : Prop} [Decidable p] {a b : Prop} (h1 : p → a) (h2 : ¬ p → b) : if decide p = true then a else b := by
  by_cases h : p
  · rw [decide_eq_true h, if_pos rfl]; exact h1 h
  · rw [decide_eq_false h, if_neg Bool.false_ne_true]; exact h2 h


noncomputable def rv : Flow → Value
  | .ret v => v
  | _ => .none
/-- a def by its body -/
theorem Cl.enter {K : Frag} {A : Around} {W : Wd} {X : Led} {P : Value → Wd → Led → Prop} {name qual : Str} {params : Arguments} {body : List Stmt} {scope : Scope} {dV kV doc pm cdv ct oc : Value} {an od : Option Addr} {osl : Array (Option Value)} {f : Addr} {vals : List Value} {n : Nat}
    (binds : List (Str × Value)) (G : GW w K W) (hr : Room A (n + 1))
    (ho : K.lookup f = some ⟨oc, od, .func (fnOf name qual params body scope dV kV doc pm an cdv ct), osl⟩) (hcd : codeIn K cdv qual = true)
    (hbind : ∀ s X, St W X s.heap → BindsTo s (fnOf name qual params body scope dV kV doc pm an cdv ct) ⟨vals, []⟩ binds)
    (hkind : (binds.all fun y => scope.names.lookup y.1 == some .local || scope.names.lookup y.1 == some .cell) = true) (hck : cellsOk scope.names = true)
    (hco : scope.isCoroutine = false) (hgen : scope.isGenerator = false) (hk : scope.kind = .function)
    (h : ∀ A' L g Q', Room A' n → Hid (fun fl _ W' X' => P (rv fl) W' X') Q' → Tr prog w A' (envOfC qual scope L f cdv) g (mB binds fun _ => none) W X (execs body (envOfC qual scope L f cdv)) Q') :
    Cl prog w A W X (.ref f) vals P := .mk fun s S =>
  (Mine.enter (R := fun r s' => ∃ v W' X', r = .ok (.ret v) ∧ Adv (org W X s) W' X' s' ∧ P v W' X') G S hr ho hcd (hbind s X S) hkind hck (fun L s₁ C hr' => (h _ L (org W X s) _ hr' .rfl).go C fun fl s' m' W' X' C' p => ⟨rv fl, W', X', by cases fl <;> rfl, C'.adv, p⟩) hco hgen hk)

section
variable (prog : Program) (w : World) (A : Around) (env : Env) (g : Org)
noncomputable abbrev KCal (pos : Pos) (args : List Expr) (Q : Value → Vm → Wd → Led → Prop) : Value → Vm → Wd → Led → Prop := fun v m W X => Tr prog w A env g m W X (callWith pos v [] (backTo pos (starEach args env)) []) Q
noncomputable abbrev KMet2 (pos : Pos) (args : List Expr) (Q : Value → Vm → Wd → Led → Prop) : Value × List Value → Vm → Wd → Led → Prop := fun fx m W X => Tr prog w A env g m W X (callWith pos fx.1 fx.2 (backTo pos (starEach args env)) []) Q
noncomputable abbrev KMet (x : Str) (pl : Sem Bool) (pos : Pos) (args : List Expr) (Q : Value → Vm → Wd → Led → Prop) : Value → Vm → Wd → Led → Prop := fun o m W X => Tr prog w A env g m W X (getMethod o x pl) (KMet2 prog w A env g pos args Q)
noncomputable abbrev KCaf (f : Value) (first : List Value) (Q : Value → Vm → Wd → Led → Prop) : List Value → Vm → Wd → Led → Prop := fun vs m W X => Tr prog w A env g m W X (call f (first ++ vs)) Q
noncomputable abbrev KCa (f : Value) (Q : Value → Vm → Wd → Led → Prop) : List Value → Vm → Wd → Led → Prop := fun vs m W X => Tr prog w A env g m W X (call f vs) Q
noncomputable abbrev KCas (f self : Value) (Q : Value → Vm → Wd → Led → Prop) : List Value → Vm → Wd → Led → Prop := fun vs m W X => Tr prog w A env g m W X (call f (self :: vs)) Q
noncomputable abbrev KCak (K : Frag) (f : Value) (Q : Value → Vm → Wd → Led → Prop) : List Value → Vm → Wd → Led → Prop := fun vs m W X => GW w K W ∧ Tr prog w A env g m W X (call f vs) Q
noncomputable abbrev KCaks (K : Frag) (f self : Value) (Q : Value → Vm → Wd → Led → Prop) : List Value → Vm → Wd → Led → Prop := fun vs m W X => GW w K W ∧ Tr prog w A env g m W X (call f (self :: vs)) Q
end
/-! calls -/
section
variable {Q : Value → Vm → Wd → Led → Prop} {pos : Pos} {first : List Value} {e : Expr} {es : List Expr}
theorem ev_call {f : Expr} {args : List Expr} (hc : eval (.Call f args [] pos) env = (do let v ← eval f env; callWith pos v [] (backTo pos (starEach args env)) (backToKw pos (keywordEach [] env))))
    (h : Tr prog w A env g m W X (eval f env) (KCal prog w A env g pos args Q)) : Tr prog w A env g m W X (eval (.Call f args [] pos) env) Q :=
  .mk fun _ C => Call_ (h.go C fun _ s₁ _ _ _ C₁ h₁ => h₁.run s₁ C₁) hc
theorem ev_meth {o : Expr} {x : Str} {ap : Pos} {args : List Expr} (pl : Sem Bool)
    (hc : eval (.Call (.Attribute o x ap) args [] pos) env = (do let ov ← eval o env; standAt (Pos.atName ap); let y ← holding [ov] (getMethod ov x pl); match y with | (f, first) => callWith pos f first (backTo pos (starEach args env)) (backToKw pos (keywordEach [] env))))
    (h : Tr prog w A env g m W X (eval o env) (KMet prog w A env g x pl pos args Q)) :
    Tr prog w A env g m W X (eval (.Call (.Attribute o x ap) args [] pos) env) Q :=
  .mk fun _ C => methodCall_KW (kws := []) (h.go C fun _ _ _ _ _ C₁ h₁ => h₁.go C₁ fun _ s₂ _ _ _ C₂ h₂ => h₂.run s₂ C₂) hc
theorem cw_K {K : Frag} {f : Value} (hk : keepIn K f = true) (he : starEach (e :: es) env = (false, eval e env) :: starEach es env) (hp : ((backTo pos (starEach es env)).any fun x => x.1) = false)
    (h : Tr prog w A env g m W X (spliced (backTo pos (starEach (e :: es) env))) fun vs m₁ W₁ X₁ => GW w K W₁ ∧ Tr prog w A env g m₁ W₁ X₁ (call f (first ++ vs)) Q) (G : GW w K W) :
    Tr prog w A env g m W X (callWith pos f first (backTo pos (starEach (e :: es) env)) []) Q :=
  .mk fun _ C => callWith_K (G.inH C.adv.st) hk (h.go C fun _ s₁ _ _ _ C₁ h₁ => ⟨h₁.1.inH C₁.adv.st, h₁.2.run s₁ C₁⟩) he hp
theorem cw_K0 {K : Frag} {f : Value} (hk : keepIn K f = true) (G : GW w K W) (h : Tr prog w A env g m W X (call f (first ++ [])) Q) : Tr prog w A env g m W X (callWith pos f first (backTo pos (starEach [] env)) []) Q :=
  .mk fun s C => callWith_K0 (G.inH C.adv.st) hk (h.run s C)
theorem cw_0 {f : Value} (hk : keeperOf f = pure .machine) (h : Tr prog w A env g m W X (call f (first ++ [])) Q) : Tr prog w A env g m W X (callWith pos f first (backTo pos (starEach [] env)) []) Q :=
  .mk fun s C => callWith_of (P := fun _ => True) rfl (fun _ _ => ⟨.machine, .inr (.inl rfl), Looks.of_pure hk⟩) (evalArgs_nil3 ⟨trivial, h.run s C⟩)
theorem cw_1 {f : Value} (hk : keeperOf f = pure .machine) (he : starEach (e :: es) env = (false, eval e env) :: starEach es env) (hp : ((backTo pos (starEach es env)).any fun x => x.1) = false)
    (h : Tr prog w A env g m W X (spliced (backTo pos (starEach (e :: es) env))) fun vs m₁ W₁ X₁ => Tr prog w A env g m₁ W₁ X₁ (call f (first ++ vs)) Q) :
    Tr prog w A env g m W X (callWith pos f first (backTo pos (starEach (e :: es) env)) []) Q := .mk fun s C => by
  have h' := h.run s C
  rw [he] at h' ⊢
  refine callWith_of (P := fun _ => True) (by show ((false || (backTo pos (starEach es env)).any (·.1)) || false) = false; rw [hp]; rfl) (fun _ _ => ⟨.machine, .inr (.inl rfl), Looks.of_pure hk⟩) (evalArgs_plain ?_)
  exact wpAny_mono h' (fun _ s₁ ⟨_, _, _, C₁, h₁⟩ => ⟨trivial, h₁.run s₁ C₁⟩) fun _ _ x => x

theorem cw_K' {K : Frag} {f : Value} (hk : keepIn K f = true) (he : starEach (e :: es) env = (false, eval e env) :: starEach es env) (hp : ((backTo pos (starEach es env)).any fun x => x.1) = false) (G : GW w K W)
    (h : Tr prog w A env g m W X (spliced (backTo pos (starEach (e :: es) env))) (KCak prog w A env g K f Q)) :
    Tr prog w A env g m W X (callWith pos f [] (backTo pos (starEach (e :: es) env)) []) Q := cw_K hk he hp h G
theorem cw_Ks {K : Frag} {f self : Value} (hk : keepIn K f = true) (he : starEach (e :: es) env = (false, eval e env) :: starEach es env) (hp : ((backTo pos (starEach es env)).any fun x => x.1) = false) (G : GW w K W)
    (h : Tr prog w A env g m W X (spliced (backTo pos (starEach (e :: es) env))) (KCaks prog w A env g K f self Q)) :
    Tr prog w A env g m W X (callWith pos f [self] (backTo pos (starEach (e :: es) env)) []) Q := cw_K hk he hp h G
theorem cw_K0' {K : Frag} {f : Value} (hk : keepIn K f = true) (G : GW w K W) (h : Tr prog w A env g m W X (call f []) Q) : Tr prog w A env g m W X (callWith pos f [] (backTo pos (starEach [] env)) []) Q := cw_K0 hk G h
theorem cw_K0s {K : Frag} {f self : Value} (hk : keepIn K f = true) (G : GW w K W) (h : Tr prog w A env g m W X (call f [self]) Q) : Tr prog w A env g m W X (callWith pos f [self] (backTo pos (starEach [] env)) []) Q := cw_K0 hk G h
theorem cw_0' {f : Value} (hk : keeperOf f = pure .machine) (h : Tr prog w A env g m W X (call f []) Q) : Tr prog w A env g m W X (callWith pos f [] (backTo pos (starEach [] env)) []) Q := cw_0 hk h
theorem cw_0s {f self : Value} (hk : keeperOf f = pure .machine) (h : Tr prog w A env g m W X (call f [self]) Q) : Tr prog w A env g m W X (callWith pos f [self] (backTo pos (starEach [] env)) []) Q := cw_0 hk h
theorem cw_1' {f : Value} (hk : keeperOf f = pure .machine) (he : starEach (e :: es) env = (false, eval e env) :: starEach es env) (hp : ((backTo pos (starEach es env)).any fun x => x.1) = false)
    (h : Tr prog w A env g m W X (spliced (backTo pos (starEach (e :: es) env))) (KCa prog w A env g f Q)) :
    Tr prog w A env g m W X (callWith pos f [] (backTo pos (starEach (e :: es) env)) []) Q := cw_1 hk he hp h
theorem cw_1s {f self : Value} (hk : keeperOf f = pure .machine) (he : starEach (e :: es) env = (false, eval e env) :: starEach es env) (hp : ((backTo pos (starEach es env)).any fun x => x.1) = false)
    (h : Tr prog w A env g m W X (spliced (backTo pos (starEach (e :: es) env))) (KCas prog w A env g f self Q)) :
    Tr prog w A env g m W X (callWith pos f [self] (backTo pos (starEach (e :: es) env)) []) Q := cw_1 hk he hp h
end

/-! items -/
section
variable {Q : Value → Vm → Wd → Led → Prop} {value slice : Expr} {l : Addr} {vs : List Value} {k : Int} {u : Tok} {x : Value}
theorem su_lst (hl : LstX W X l vs) (h0 : 0 ≤ k) (hf : k < 2 ^ 63) (hx : vs[k.toNat]? = some x) (hs : subscripted slice false (.ref l) (.int k u) = operate [.ref l, .int k u] (getItem (.ref l) (.int k u))) (h : Q x m W X) :
    Tr prog w A env g m W X (subscriptTail value slice (.ref l) (.int k u)) Q := .mk fun _ C =>
  tail_any (C.adv.st.lst hl).typeIs slot_list_getitem.lookup (wpAny_getItem_list (C.adv.st.lst hl) h0 hf (by simpa using hx) ⟨_, _, _, C, h⟩) hs
theorem su_tup {j : Nat} (hl : TupX W X l vs) (hlo : -2 ^ 63 ≤ k) (hf : k < 2 ^ 63) (hj : seqIndex? k vs.length = some j) (hx : vs[j]? = some x) (hs : subscripted slice false (.ref l) (.int k u) = operate [.ref l, .int k u] (getItem (.ref l) (.int k u))) (h : Q x m W X) :
    Tr prog w A env g m W X (subscriptTail value slice (.ref l) (.int k u)) Q := .mk fun _ C => item_tupleT (C.adv.st.tup hl) hlo hf hj hx ⟨_, _, _, C, h⟩ hs
theorem ca_len (hl : LstX W X l vs) (hz : vs.length ≤ sizeLine) (h : ∀ t, Q (.int vs.length t) m W X) : Tr prog w A env g m W X (call (.builtin "len") [.ref l]) Q := .mk fun _ C =>
  PyProof.Rows.len_list (C.adv.st.lst hl) (by rw [List.size_toArray]; rw [sizeLine_eq] at hz; omega) ⟨_, _, _, C.toks _, by simpa using h _⟩
/-- the first of X is a list that turns at a place -/
theorem si_lst {o : Obj} {X' : Led} {v : Value} {Q : Unit → Vm → Wd → Led → Prop} (hl : LstO o vs) (h0 : 0 ≤ k) (hf : k < 2 ^ 63) (hn : k < vs.length) (h : ∀ o', LstO o' (vs.set k.toNat v) → Q () m W ((l, o') :: X')) :
    Tr prog w A env g m W ((l, o) :: X') (setItem (.ref l) (.int k u) v) Q := .mk fun s C => by
  refine wpAny_setItem_list (C.adv.st.lst ⟨o, .inr List.mem_cons_self, hl⟩) h0 hf (by simpa using hn) fun h' hl' hs => ?_
  refine und fun Gq hGq => ?_
  obtain ⟨o', e, c, n, d⟩ := hl'
  refine hGq ?_
  clear hGq Gq
  exact ⟨_, _, _, C.set hs e, h o' ⟨c, n, by rw [d]; simp⟩⟩
end
end
end
section -- Lp
/-! what the walk does not see but keeps: iterators, a growing list -/
structure Side (env : Env) (g : Org) (W : Wd) (X : Led) (B : Addr → Prop) : Prop where
  w : ∀ b, B b → W b = none
  x : ∀ b, B b → b ∉ adr X
  own : ∀ b, B b → ¬ Own env b
  org : ∀ b, B b → g.O b ∨ g.s.heap.get? b = none

section
variable {env : Env} {m : Vm} {g : Org} {W : Wd} {X : Led} {s : Shared}
theorem Cur.side {B : Addr → Prop} {h' : Heap} {tk : Nat} (C : Cur env m g W X s) (d : Side env g W X B) (hk : ∀ b o, ¬ B b → s.heap.get? b = some o → h'.get? b = some o) : Cur env m g W X { s with heap := h', toks := tk } := by
  refine ⟨⟨?_, ⟨fun b o e => hk b o (fun q => ?_) (C.adv.st.w b o e), fun b o e => hk b o (fun q => d.x b q (mem_adr_of e)) (C.adv.st.x b o e), C.adv.st.xw, C.adv.st.nd⟩, C.adv.sub, fun b o e hx => hk b o (fun q => ?_) (C.adv.keep b o e hx), C.adv.fr, C.adv.xfr⟩,
    ⟨?_, C.fm.lw, C.fm.lx, fun x a hc => ?_, C.fm.inj⟩, C.ok⟩
  · obtain ⟨h, t, e⟩ := C.adv.rest
    exact ⟨h', tk, by rw [e]⟩
  · rw [d.w b q] at e; cases e
  · rcases d.org b q with h | h
    · exact hx h
    · rw [h] at e; cases e
  · obtain ⟨ml, hn, hm⟩ := C.fm.loc
    exact ⟨ml, hn.at' fun o e => hk _ o (fun q => d.own _ q (.inl rfl)) e, hm⟩
  · obtain ⟨⟨o, ho, hd⟩, c2, c3, c4⟩ := C.fm.cel x a hc
    exact ⟨⟨o, hk _ o (fun q => d.own _ q (.inr ⟨x, hc⟩)) ho, hd⟩, c2, c3, c4⟩
theorem Side.go {m' : Vm} {B : Addr → Prop} {W' : Wd} {X' : Led} {s' : Shared} (d : Side env g W X B) (C : Cur env m g W X s) (hB : ∀ b, B b → ∃ o, s.heap.get? b = some o) (D : Cur env m' (orgL env W X s) W' X' s') :
    Side env g W' X' B ∧ ∀ b o, B b → s.heap.get? b = some o → s'.heap.get? b = some o := by
  have old : ∀ b o, B b → s.heap.get? b = some o → s'.heap.get? b = some o ∧ W' b = none ∧ b ∉ adr X' := fun b o q e =>
    D.adv.old (g := orgL env W X s) e (d.w b q) fun h => h.elim (d.x b q) (d.own b q)
  refine ⟨⟨fun b q => ?_, fun b q => ?_, d.own, d.org⟩, fun b o q e => (old b o q e).1⟩
  · obtain ⟨o, e⟩ := hB b q; exact (old b o q e).2.1
  · obtain ⟨o, e⟩ := hB b q; exact (old b o q e).2.2
end

/-- a value that a loop may be over: n items, P says which; X' what is left of X -/
structure Itr (prog : Program) (w : World) (A : Around) (W : Wd) (X : Led) (v : Value) (X' : Led) (n : Nat) (P : Nat → Value → Prop) : Prop where
  sub : ∀ p ∈ X', p ∈ X
  nd : (adr X).Nodup → (adr X').Nodup
  run : ∀ s, St W X s.heap → wpAny (model prog w) A (pyIter v) (fun it s' => ∃ (I : Addr) (fp wr : List Addr) (SI : Nat → Heap → Prop) (h : Heap) (tk : Nat), it = .ref I ∧ s' = { s with heap := h, toks := tk } ∧
    Walks prog w A I fp wr n P SI ∧ SI 0 h ∧ (∀ b o, s.heap.get? b = some o → h.get? b = some o) ∧
    (∀ b ∈ fp, (∃ o, W b = some o) ∨ (W b = none ∧ b ∉ adr X' ∧ (s.heap.get? b = none ∨ b ∈ adr X))) ∧ (∀ b ∈ wr, W b = none) ∧
    (∀ i h, SI i h → ∀ b ∈ fp, ∃ o, h.get? b = some o) ∧
    (∀ i (s : Shared) tg v (Q : Unit → Shared → Prop), SI i s.heap → Q () s → wpAny (model prog w) A (letOwnedTupleGo tg (.ref I) v) Q no s)) no s

section
variable {prog : Program} {w : World} {A : Around} {env : Env} {m : Vm} {g : Org} {W : Wd} {X : Led}

theorem ltg {I : Addr} {tg : Expr} {v : Value} {s : Shared} {o : Obj} {T : String} {vs : Array Value} {Q : Unit → Shared → Prop} (ho : s.heap.get? I = some o) (hc : o.cls = .type T) (hd : o.data = .fields vs)
    (hT : (["enumerate", "zip", "dict_itemiterator", "dict_reverseitemiterator", "odict_iterator", "itertools.zip_longest", "itertools.pairwise"] : List String).contains T = false) (h : Q () s) : wpAny (model prog w) A (letOwnedTupleGo tg (.ref I) v) Q no s := by
  unfold letOwnedTupleGo
  have key : ∀ a, v = .ref a → wpAny (model prog w) A (do
      let o ← load I
      match o.cls, o.data with
      | .type n, .fields vs =>
        if (["enumerate", "zip", "dict_itemiterator", "dict_reverseitemiterator", "odict_iterator", "itertools.zip_longest", "itertools.pairwise"] : List String).contains n && vs[0]? == some (rawInt a) then
          rule "for.unpacks-the-owned-tuple"
          updateField I 0 .none
      | _, _ => pure () : Sem Unit) Q no s := fun a _ => by
    refine wpAny_bind (wpAny_load ho ?_)
    rw [hc, hd]
    show wpAny _ A (if (_ && _) = true then _ else _) Q no s
    rw [hT, Bool.false_and, if_neg Bool.false_ne_true]
    exact wpAny_pure h
  cases tg with
  | Tuple es k p => cases v <;> first | exact wpAny_pure h | exact key _ rfl
  | List es p => cases v <;> first | exact wpAny_pure h | exact key _ rfl
  | _ => exact wpAny_pure h

theorem itr_list (hh : A.handled = none) {l : Addr} {vs : List Value} (hl : LstW W l vs) : Itr prog w A W X (.ref l) X vs.length fun i v => vs[i]? = some v where
  sub := fun _ h => h
  nd := fun h => h
  run := fun s S => by
    have hL := S.lst (hl.x (X := X))
    have hne : l ≠ s.heap.objs.size := by obtain ⟨o, ho, _⟩ := hL; exact Nat.ne_of_lt (Heap.lt_size ho)
    have fresh : s.heap.get? s.heap.objs.size = none := by
      cases q : s.heap.get? s.heap.objs.size with
      | none => rfl
      | some o => exact absurd (Heap.lt_size q) (Nat.lt_irrefl _)
    have W' := Walks.list (prog := prog) (w := w) hh s.heap.objs.size l hne vs.toArray
    simp only [List.getElem?_toArray, List.size_toArray] at W'
    refine wpAny_pyIter_list hL ⟨_, _, _, _, _, _, rfl, rfl, W', ⟨⟨_, Heap.get?_push_size _ rfl, rfl, rfl⟩, hL.at fun o e => Heap.get?_push_of_some _ e⟩, fun b o e => Heap.get?_push_of_some _ e, fun b hb => ?_, fun b hb => ?_, fun i h hs b hb => ?_, fun i s' tg v Q hs hq => ?_⟩
    · rcases List.mem_cons.mp hb with rfl | hb
      · refine .inr ⟨?_, fun hm => ?_, .inl fresh⟩
        · cases q : W s.heap.objs.size with
          | none => rfl
          | some o => rw [S.w _ _ q] at fresh; cases fresh
        · obtain ⟨o, hm⟩ := mem_adr.mp hm
          rw [S.x _ _ hm] at fresh; cases fresh
      · rw [List.mem_singleton.mp hb]
        obtain ⟨o, e, _⟩ := hl
        exact .inl ⟨o, e⟩
    · rw [List.mem_singleton.mp hb]
      cases q : W s.heap.objs.size with
      | none => rfl
      | some o => rw [S.w _ _ q] at fresh; cases fresh
    · rcases List.mem_cons.mp hb with rfl | hb
      · obtain ⟨o, e, _⟩ := hs.1; exact ⟨o, e⟩
      · rw [List.mem_singleton.mp hb]
        obtain ⟨o, e, _⟩ := hs.2; exact ⟨o, e⟩
    · obtain ⟨o, e, c, d⟩ := hs.1
      exact ltg e c d (by decide) hq

/-- how a turn ends -/
noncomputable def Turn (J : Vm → Wd → Led → Prop) (Q : Flow → Vm → Wd → Led → Prop) (f : Flow) (m : Vm) (W : Wd) (X : Led) : Prop := match f with
  | .next | .cont => J m W X
  | .brk => Q .next m W X
  | .ret v => Q (.ret v) m W X

noncomputable abbrev KBdy (prog : Program) (w : World) (A : Around) (env : Env) (g : Org) (body : List Stmt) (T : Flow → Vm → Wd → Led → Prop) : Unit → Vm → Wd → Led → Prop := fun _ m W X => Tr prog w A env g m W X (execs body env) T
noncomputable abbrev KWh (prog : Program) (w : World) (A : Around) (env : Env) (g : Org) (body : List Stmt) (T Q : Flow → Vm → Wd → Led → Prop) : Bool → Vm → Wd → Led → Prop := fun b m W X => if b = true then Tr prog w A env g m W X (execs body env) T else Q .next m W X
inductive ForI (prog : Program) (w : World) (A : Around) (env : Env) (tgt : Expr) (body : List Stmt) (Q : Flow → Vm → Wd → Led → Prop) (v : Value) (m₁ : Vm) (W₁ : Wd) (X₁ : Led) : Prop
  | mk (X₂ : Led) (n : Nat) (P : Nat → Value → Prop) (it : Itr prog w A W₁ X₁ v X₂ n P) (J : Nat → Vm → Wd → Led → Prop) (j0 : J 0 m₁ W₁ X₂)
    (turn : ∀ i v m' W' X' g' T, Hid (Turn (J (i + 1)) Q) T → i < n → P i v → Le W₁ W' → J i m' W' X' → ∀ Gq : Value → Led → Prop, (∀ v X', Imp (Tr prog w A env g' m' W' X' (assign tgt env v) (KBdy prog w A env g' body T)) (Gq v X')) → Gq v X')
    (fin : ∀ m' W' X', Le W₁ W' → J n m' W' X' → ∀ Gq : Led → Prop, (∀ X', Imp (Q .next m' W' X') (Gq X')) → Gq X') : ForI prog w A env tgt body Q v m₁ W₁ X₁
/-- a for -/
theorem ex_for {tgt iter : Expr} {body : List Stmt} {pos : Pos} {Q : Flow → Vm → Wd → Led → Prop} (hs : ∀ x, foldedSetIterable iter env x = pure x)
    (h : Tr prog w A env g m W X (eval iter env) (ForI prog w A env tgt body Q)) : Tr prog w A env g m W X (exec (.For tgt iter body [] pos) env) Q := .mk fun s C => by
  refine wpAny_For (h.go C fun v s₁ m₁ W₁ X₁ C₁ h₁ => ?_) hs
  refine und fun Gq hGq => ?_
  obtain ⟨X₂, n, P, it, J, j0, turn', done'⟩ := h₁
  have turn := fun i v m' W' X' g' T hT hi hP le j => turn' i v m' W' X' g' T hT hi hP le j (fun v X' => Tr prog w A env g' m' W' X' (assign tgt env v) (KBdy prog w A env g' body T)) fun _ _ h => h
  have done := fun m' W' X' le j => done' m' W' X' le j (fun X' => Q .next m' W' X') fun _ h => h
  refine hGq ?_
  clear hGq Gq
  refine wpAny_mono (it.run s₁ C₁.adv.st) (fun r s₂ h₂ => ?_) fun _ _ x => x
  refine und fun Gq hGq => ?_
  obtain ⟨I, fp, wr, SI, h₂, tk₂, rfl, rfl, wk, si, up, hfp, hwr, live, lo⟩ := h₂
  refine hGq ?_
  clear hGq Gq
  let B : Addr → Prop := fun b => b ∈ fp ∧ W₁ b = none
  have C₁' := C₁.drop it.sub (it.nd C₁.adv.st.nd)
  have own : ∀ b, Own env b → (∃ o, s₁.heap.get? b = some o) ∧ b ∉ adr X₁ := fun b hb => by
    rcases hb with rfl | ⟨x, hx⟩
    · obtain ⟨ml, ⟨o, _, _, e, _⟩, _⟩ := C₁.fm.loc
      exact ⟨⟨o, e⟩, C₁.fm.lx⟩
    · obtain ⟨⟨o, e, _⟩, _, c3, _⟩ := C₁.fm.cel x b hx
      exact ⟨⟨o, e⟩, c3⟩
  have d0 : Side env g W₁ X₂ B := by
    refine ⟨fun b q => q.2, fun b q hm => ?_, fun b q ho => ?_, fun b q => ?_⟩
    · rcases hfp b q.1 with ⟨o, e⟩ | ⟨_, hx, _⟩
      · rw [q.2] at e; cases e
      · exact hx hm
    · obtain ⟨⟨o, e⟩, hx⟩ := own b ho
      rcases hfp b q.1 with ⟨o', e'⟩ | ⟨_, _, hn | hm⟩
      · rw [q.2] at e'; cases e'
      · rw [hn] at e; cases e
      · exact hx hm
    · rcases hfp b q.1 with ⟨o', e'⟩ | ⟨_, _, hn | hm⟩
      · rw [q.2] at e'; cases e'
      · cases e : g.s.heap.get? b with
        | none => exact .inr rfl
        | some o => exact .inl (Classical.byContradiction fun hx => by rw [C₁.adv.keep b o e hx] at hn; cases hn)
      · exact C₁.adv.xfr b hm
  have fpo : ∀ b ∈ fp, W₁ b ≠ none → ∃ o, W₁ b = some o := fun b _ q => Option.ne_none_iff_exists'.mp q
  refine codeAny_mono (codeAny_forLoop_any (R := fun r s' => ∃ f, r = .ok f ∧ ∃ m' W' X', Cur env m' g W' X' s' ∧ Q f m' W' X')
    (fun k s' => ∃ i m' W' X', k = n + 1 - i ∧ i ≤ n ∧ Cur env m' g W' X' s' ∧ Le W₁ W' ∧ Side env g W' X' B ∧ SI i s'.heap ∧ J i m' W' X') ?_ (n + 1)
    ⟨0, m₁, W₁, X₂, rfl, Nat.zero_le _, C₁'.side (B := fun _ => False) ⟨nofun, nofun, nofun, nofun⟩ fun b o _ e => up b o e, Le.refl _, d0, si, j0⟩) fun r s' hr => ?_
  · intro k s' hJ1
    refine und fun Gq hGq => ?_
    obtain ⟨i, m', W', X', rfl, hi, C', le, sd, si', j⟩ := hJ1
    refine hGq ?_
    clear hGq Gq
    by_cases hlt : i < n
    · refine wpAny_mono (wk.item i s' _ no hlt si' fun v h₃ tk₃ pv si₃ hk₃ => ?_) (fun _ _ z => z) fun _ _ x => x.elim
      have C₃ : Cur env m' g W' X' { s' with heap := h₃, toks := tk₃ } := C'.side (B := fun b => b ∈ wr) ⟨fun b q => sd.w b ⟨wk.sub b q, hwr b q⟩, fun b q => sd.x b ⟨wk.sub b q, hwr b q⟩, fun b q => sd.own b ⟨wk.sub b q, hwr b q⟩, fun b q => sd.org b ⟨wk.sub b q, hwr b q⟩⟩ hk₃
      refine wpAny_mono (lo (i + 1) { s' with heap := h₃, toks := tk₃ } tgt v _ si₃ ?_) (fun _ _ z => z) fun _ _ x => x.elim
      have T := turn i v m' W' X' (orgL env W' X' { s' with heap := h₃, toks := tk₃ }) _ .rfl hlt pv le j
      refine wpAny_mono (T.go C₃.self fun _ s₄ m₄ W₄ X₄ C₄ h₄ => wpAny_mono (h₄.go C₄ fun f s₅ m₅ W₅ X₅ C₅ h₅ => ?_) (fun _ _ z => z) fun _ _ x => x.elim) (fun _ _ z => z) fun _ _ x => x.elim
      have Cb := C₃.back C₅
      have again : J (i + 1) m₅ W₅ X₅ → ∃ k, k < n + 1 - i ∧ ∃ i m' W' X', k = n + 1 - i ∧ i ≤ n ∧ Cur env m' g W' X' s₅ ∧ Le W₁ W' ∧ Side env g W' X' B ∧ SI i s₅.heap ∧ J i m' W' X' := fun j' => by
        obtain ⟨sd₅, kp⟩ := sd.go C₃ (fun b q => live _ _ si₃ b q.1) C₅
        refine ⟨n + 1 - (i + 1), by omega, i + 1, m₅, W₅, X₅, rfl, hlt, Cb, le.trans C₅.adv.sub, sd₅, wk.frame _ _ _ si₃ fun b hb o e => ?_, j'⟩
        cases q : W₁ b with
        | none => exact kp b o ⟨hb, q⟩ e
        | some o' =>
          have e' := C₃.adv.st.w b o' (le b o' q)
          rw [e] at e'; cases e'
          exact C₅.adv.st.w b o (C₅.adv.sub b o (le b o q))
      cases f with
      | next => exact again h₅
      | cont => exact again h₅
      | brk => exact ⟨.next, rfl, m₅, W₅, X₅, Cb, h₅⟩
      | ret r => exact ⟨.ret r, rfl, m₅, W₅, X₅, Cb, h₅⟩
    · obtain rfl : i = n := by omega
      refine wpAny_mono (wk.done s' _ no si' fun h₃ tk₃ hk₃ => ?_) (fun _ _ z => z) fun _ _ x => x.elim
      have C₃ : Cur env m' g W' X' { s' with heap := h₃, toks := tk₃ } := C'.side (B := fun b => b ∈ wr) ⟨fun b q => sd.w b ⟨wk.sub b q, hwr b q⟩, fun b q => sd.x b ⟨wk.sub b q, hwr b q⟩, fun b q => sd.own b ⟨wk.sub b q, hwr b q⟩, fun b q => sd.org b ⟨wk.sub b q, hwr b q⟩⟩ hk₃
      exact wpAny_execs_nil ⟨.next, rfl, m', W', X', C₃, done m' W' X' le j⟩
  · obtain ⟨f, rfl, z⟩ := hr
    exact z

/-- a while: k falls with every turn -/
theorem ex_while {test : Expr} {body : List Stmt} {pos : Pos} {Q : Flow → Vm → Wd → Led → Prop} (J : Nat → Vm → Wd → Led → Prop) (n : Nat) (h0 : J n m W X)
    (turn : ∀ n m W X g' T, Hid (Turn (fun m₃ W₃ X₃ => ∃ k, k < n ∧ J k m₃ W₃ X₃) Q) T → J n m W X → ∀ Gq : Led → Prop, (∀ X, Imp (Tr prog w A env g' m W X (isTrue test env (eval test env)) (KWh prog w A env g' body T Q)) (Gq X)) → Gq X) :
    Tr prog w A env g m W X (exec (.While test body [] pos) env) Q := .mk fun s C => by
  refine wpAny_While (codeAny_mono (codeAny_whileLoop (R := fun r s' => ∃ f, r = .ok f ∧ ∃ m' W' X', Cur env m' g W' X' s' ∧ Q f m' W' X') (fun n s => ∃ m W X, Cur env m g W X s ∧ J n m W X) ?_ n ⟨m, W, X, C, h0⟩) fun r s' hr => ?_)
  · intro n s hJ2
    refine und fun Gq hGq => ?_
    obtain ⟨m, W, X, C, j⟩ := hJ2
    refine hGq ?_
    clear hGq Gq
    refine wpAny_mono ((show Tr prog w A env g m W X (isTrue test env (eval test env)) (KWh prog w A env g body _ Q) from turn n m W X g _ .rfl j (fun X => Tr prog w A env g m W X (isTrue test env (eval test env)) (KWh prog w A env g body _ Q)) fun _ h => h).go C fun b s₂ m₂ W₂ X₂ C₂ h₂ => ?_) (fun _ _ z => z) fun _ _ x => x.elim
    cases b with
    | true =>
      refine wpAny_mono (Tr.go h₂ C₂ fun f s₃ m₃ W₃ X₃ C₃ h₃ => ?_) (fun _ _ z => z) fun _ _ x => x.elim
      cases f with
      | next => obtain ⟨k, lt, j'⟩ := h₃; exact ⟨k, lt, _, _, _, C₃, j'⟩
      | cont => obtain ⟨k, lt, j'⟩ := h₃; exact ⟨k, lt, _, _, _, C₃, j'⟩
      | brk => exact ⟨.next, rfl, _, _, _, C₃, h₃⟩
      | ret v => exact ⟨.ret v, rfl, _, _, _, C₃, h₃⟩
    | false => exact wpAny_execs_nil ⟨.next, rfl, _, _, _, C₂, h₂⟩
  · obtain ⟨f, rfl, z⟩ := hr
    exact z
end
end
section -- Lc
/-- a comprehension's own variables at the start -/
noncomputable def cmv (cenv : Env) (m : Vm) : Vm := fun y => if (cenv.kindOf y == some .local) = true then none else m y
theorem cmv_of {cenv : Env} {m : Vm} {y : Str} {u : Option Value} (h : (cenv.kindOf y == some .local) = false) (e : m y = u) : cmv cenv m y = u := by
  unfold cmv; rw [h, if_neg Bool.false_ne_true]; exact e
/-- the same but for the names xs -/
noncomputable def Ag (xs : List Str) (m m' : Vm) : Prop := ∀ y, xs.contains y = false → m y = m' y
theorem Ag.refl {xs : List Str} {m : Vm} : Ag xs m m := fun _ _ => rfl
theorem Ag.upd {xs : List Str} {m m' : Vm} {x : Str} {v : Value} (h : Ag xs m m') (hx : xs.contains x = true) : Ag xs (Mine.upd m x v) m' := fun y hy => by
  have : ¬ y = x := fun e => by rw [e, hx] at hy; cases hy
  rw [upd_ne this rfl]; exact h y hy
theorem ag_get {xs : List Str} {cenv : Env} {m mi : Vm} {y : Str} {u : Option Value} (hA : Ag xs mi (cmv cenv m)) (hn : xs.contains y = false) (hk : (cenv.kindOf y == some .local) = false) (e : m y = u) : mi y = u :=
  (hA y hn).trans (cmv_of hk e)

noncomputable def tst (env : Env) (ifs : List Expr) : Sem Bool := forIn ifs true fun c r => if r = true then do let ok ← isTrue c env (eval c env); pure (ForInStep.yield ok) else pure (ForInStep.yield r)

section
variable {prog : Program} {w : World} {A : Around} {env : Env} {m : Vm} {g : Org} {W : Wd} {X : Led}

theorem ts_nil {Q : Bool → Vm → Wd → Led → Prop} (h : Q true m W X) : Tr prog w A env g m W X (tst env []) Q := .mk fun _ C => wpAny_tests_nil ⟨_, _, _, C, h⟩
theorem ts_one {c : Expr} {Q : Bool → Vm → Wd → Led → Prop} (h : Tr prog w A env g m W X (isTrue c env (eval c env)) Q) : Tr prog w A env g m W X (tst env [c]) Q := .mk fun s C => wpAny_tests_one (h.run s C)

theorem cp_turns {R : Result → Shared → Prop} {s : Shared} {elt target iter : Expr} {ifs : List Expr} {scope : Scope} {pos : Pos} {it acc : Value} {cenv : Env} (I : Nat → Shared → Prop)
    (turn : ∀ n s, I n s → wpAny (model prog w) A (pyNext it) (fun r s₁ => match r with
      | none => R (.ok .next) s₁
      | some v => wpAny (model prog w) A (letOwnedTupleGo target it v) (fun _ s₂ => wpAny (model prog w) A (assign target cenv v) (fun _ s₃ => wpAny (model prog w) A (tst cenv ifs) (fun ok s₄ =>
            if ok = true then wpAny (model prog w) A (eval elt cenv) (fun x s₅ => wpAny (model prog w) A (call (.builtin "list.append") [acc, x]) (fun _ s₆ => ∃ m, m < n ∧ I m s₆) no s₅) no s₄
            else ∃ m, m < n ∧ I m s₄) no s₃) no s₂) no s₁) no s)
    (n : Nat) (h : I n s) : codeAny (model prog w) A (.compLoop (.ListComp elt [⟨target, iter, ifs, 0⟩] scope pos) 0 it acc cenv) R s := by
  refine codeAny_loop rfl I (fun n s hI => ?_) n h
  show wpAny _ A ((compTurn (.ListComp elt [⟨target, iter, ifs, 0⟩] scope pos) 0 it acc cenv).onRaise (fun x => do noteFrame x cenv; theTreesLotGoes x)) _ _ s
  refine wpAny_noted ?_
  rw [compTurn_list]
  have nn : ∀ {α : Type} {t : Sem α} {P : α → Shared → Prop} {E : Value → Shared → Prop} {s : Shared}, wpAny (model prog w) A t P no s → wpAny (model prog w) A t P E s := fun z => wpAny_mono z (fun _ _ y => y) fun _ _ y => y.elim
  refine wpAny_bind (wpAny_standAt (wpAny_bind (nn (wpAny_mono (turn n s hI) (fun r s₁ h₁ => ?_) fun _ _ h' => h'))))
  cases r with
  | none => exact wpAny_pure h₁
  | some v =>
    refine wpAny_bind (nn (wpAny_mono h₁ (fun _ s₂ h₂ => wpAny_bind (nn (wpAny_mono h₂ (fun _ s₃ h₃ => wpAny_bind (nn (wpAny_mono h₃ (fun ok s₄ h₄ => ?_) fun _ _ h' => h'))) fun _ _ h' => h'))) fun _ _ h' => h'))
    cases ok with
    | false => exact wpAny_pure ⟨rfl, h₄⟩
    | true => exact wpAny_bind (wpAny_bind (nn (wpAny_mono h₄ (fun x s₅ h₅ => wpAny_bind (nn (wpAny_mono h₅ (fun _ s₆ h₆ => wpAny_pure (wpAny_pure ⟨rfl, h₆⟩)) fun _ _ h' => h'))) fun _ _ h' => h')))

/-- an address apart becomes the first of X -/
theorem Cur.take {s : Shared} {B : Addr → Prop} {a : Addr} {o : Obj} (C : Cur env m g W X s) (d : Side env g W X B) (hb : B a) (ho : s.heap.get? a = some o) : Cur env m g W ((a, o) :: X) s := by
  refine ⟨⟨C.adv.rest, ⟨C.adv.st.w, fun b p h => ?_, fun b p h => ?_, ?_⟩, C.adv.sub, C.adv.keep, C.adv.fr, fun b h => ?_⟩, ⟨C.fm.loc, C.fm.lw, fun h => ?_, fun x b hc => ?_, C.fm.inj⟩, C.ok⟩
  · rcases List.mem_cons.mp h with e | h
    · cases e; exact ho
    · exact C.adv.st.x b p h
  · rcases List.mem_cons.mp h with e | h
    · cases e; exact d.w _ hb
    · exact C.adv.st.xw b p h
  · rw [adr_cons]; exact List.nodup_cons.mpr ⟨d.x _ hb, C.adv.st.nd⟩
  · rw [adr_cons] at h
    rcases List.mem_cons.mp h with e | h
    · have e' : b = a := e
      subst e'; exact d.org _ hb
    · exact C.adv.xfr b h
  · rw [adr_cons] at h
    rcases List.mem_cons.mp h with e | h
    · have e' : env.locals = a := e
      exact d.own _ hb (.inl e'.symm)
    · exact C.fm.lx h
  · obtain ⟨c1, c2, c3, c4⟩ := C.fm.cel x b hc
    refine ⟨c1, c2, fun h => ?_, c4⟩
    rw [adr_cons] at h
    rcases List.mem_cons.mp h with e | h
    · have e' : b = a := e
      subst e'; exact d.own _ hb (.inr ⟨x, hc⟩)
    · exact c3 h

/-- how a comprehension's turn ends -/
noncomputable abbrev KTe (xs : List Str) (m₁ : Vm) (J : Nat → List Value → Wd → Led → Prop) (i : Nat) (ys : List Value) : Option Value → Vm → Wd → Led → Prop := fun y m W X => Ag xs m m₁ ∧ match y with
  | some y => J (i + 1) (ys ++ [y]) W X
  | none => J (i + 1) ys W X
noncomputable abbrev KTn3 (T : Option Value → Vm → Wd → Led → Prop) : Value → Vm → Wd → Led → Prop := fun y => T (some y)
noncomputable abbrev KTn2 (prog : Program) (w : World) (A : Around) (env : Env) (g : Org) (elt : Expr) (T : Option Value → Vm → Wd → Led → Prop) : Bool → Vm → Wd → Led → Prop := fun ok m W X => if ok = true then Tr prog w A env g m W X (eval elt env) (KTn3 T) else T none m W X
noncomputable abbrev KTn (prog : Program) (w : World) (A : Around) (env : Env) (g : Org) (ifs : List Expr) (elt : Expr) (T : Option Value → Vm → Wd → Led → Prop) : Unit → Vm → Wd → Led → Prop := fun _ m W X => Tr prog w A env g m W X (tst env ifs) (KTn2 prog w A env g elt T)
theorem hid_use3 {Q Q' : Option Value → Vm → Wd → Led → Prop} {y : Value} {m : Vm} {W : Wd} {X : Led} (h : Hid Q Q') (k : Q (some y) m W X) : KTn3 Q' y m W X := h.u _ _ _ _ k
noncomputable abbrev KDn4 (T : Option (Value × Value) → Vm → Wd → Led → Prop) (k : Value) : Value → Vm → Wd → Led → Prop := fun y => T (some (k, y))
theorem hid_use4 {Q Q' : Option (Value × Value) → Vm → Wd → Led → Prop} {x y : Value} {m : Vm} {W : Wd} {X : Led} (h : Hid Q Q') (k : Q (some (x, y)) m W X) : KDn4 Q' x y m W X := h.u _ _ _ _ k
/-- what the comprehension's walk asks of its turns -/
noncomputable def Turns (prog : Program) (w : World) (A : Around) (env : Env) (m₁ : Vm) (W₁ : Wd) (tgt elt : Expr) (ifs : List Expr) (scope : Scope) (cl : List (Str × Addr)) (xs : List Str) (n : Nat) (P : Nat → Value → Prop) (J : Nat → List Value → Wd → Led → Prop) : Prop :=
  ∀ C i ys v mi W' X' g', i < n → P i v → Le W₁ W' → Ag xs mi (cmv (compEnvC scope cl C env) m₁) → J i ys W' X' → ys.length ≤ i → ∀ T, Hid (KTe xs (cmv (compEnvC scope cl C env) m₁) J i ys) T →
    ∀ Gq : Value → Led → Prop, (∀ v X', Imp (Tr prog w A (compEnvC scope cl C env) g' mi W' X' (assign tgt (compEnvC scope cl C env) v) (KTn prog w A (compEnvC scope cl C env) g' ifs elt T)) (Gq v X')) → Gq v X'
theorem Turns.go {prog : Program} {w : World} {A : Around} {env : Env} {m₁ : Vm} {W₁ : Wd} {tgt elt : Expr} {ifs : List Expr} {scope : Scope} {cl : List (Str × Addr)} {xs : List Str} {n : Nat} {P : Nat → Value → Prop} {J : Nat → List Value → Wd → Led → Prop}
    (h : Turns prog w A env m₁ W₁ tgt elt ifs scope cl xs n P J) {C : Addr} {i : Nat} {ys : List Value} {v : Value} {mi : Vm} {W' : Wd} {X' : Led} (g' : Org) (hi : i < n) (hP : P i v) (le : Le W₁ W') (ag : Ag xs mi (cmv (compEnvC scope cl C env) m₁)) (j : J i ys W' X') (hl : ys.length ≤ i) :
    Tr prog w A (compEnvC scope cl C env) g' mi W' X' (assign tgt (compEnvC scope cl C env) v) (KTn prog w A (compEnvC scope cl C env) g' ifs elt (KTe xs (cmv (compEnvC scope cl C env) m₁) J i ys)) :=
  h C i ys v mi W' X' g' hi hP le ag j hl _ .rfl (fun v X' => Tr prog w A (compEnvC scope cl C env) g' mi W' X' (assign tgt (compEnvC scope cl C env) v) (KTn prog w A (compEnvC scope cl C env) g' ifs elt (KTe xs (cmv (compEnvC scope cl C env) m₁) J i ys))) fun _ _ h => h
noncomputable abbrev FQ (Q : Value → Vm → Wd → Led → Prop) : Addr → Obj → Vm → Wd → Led → Prop := fun a o m W X => Q (.ref a) m W ((a, o) :: X)
noncomputable abbrev FU (prog : Program) (w : World) (A : Around) (env : Env) (use : Option (Value → Sem Unit)) (Q : Value → Vm → Wd → Led → Prop) : Addr → Obj → Vm → Wd → Led → Prop := fun a o m W X => match use with
  | none => Q (.ref a) m W ((a, o) :: X)
  | some u => ∀ g', Tr prog w A env g' m W ((a, o) :: X) (u (.ref a)) fun _ => Q .none
noncomputable abbrev FS (prog : Program) (w : World) (A : Around) (env : Env) (y : Str) (Q : Flow → Vm → Wd → Led → Prop) : Addr → Obj → Vm → Wd → Led → Prop := fun a o m W X => ∀ g', Tr prog w A env g' m W ((a, o) :: X) (storeName env y (.ref a)) (KNext Q)
inductive CpI (prog : Program) (w : World) (A : Around) (env : Env) (tgt elt : Expr) (ifs : List Expr) (scope : Scope) (cl : List (Str × Addr)) (xs : List Str) (L : Obj → List Value → Prop) (F : Addr → Obj → Vm → Wd → Led → Prop) (v : Value) (m₁ : Vm) (W₁ : Wd) (X₁ : Led) : Prop
  | mk (X₂ : Led) (n : Nat) (P : Nat → Value → Prop) (it : Itr prog w A W₁ X₁ v X₂ n P) (hz : n ≤ sizeLine) (J : Nat → List Value → Wd → Led → Prop) (j0 : J 0 [] W₁ X₂) (turn : Turns prog w A env m₁ W₁ tgt elt ifs scope cl xs n P J)
    (fin : ∀ a o ys W' X', Le W₁ W' → L o ys → ys.length ≤ n → J n ys W' X' → W' a = none → a ∉ adr X' → ∀ Gq : Led → Prop, (∀ X', Imp (F a o m₁ W' X') (Gq X')) → Gq X') : CpI prog w A env tgt elt ifs scope cl xs L F v m₁ W₁ X₁

end
end
section -- Li
/-- a table of attributes -/
inductive AtO (o : Obj) (f : Vm) (k : Nat) : Prop
  | mk (es) (ep) (h1 : o.data = .dict es ep) (h2 : StrKeys es) (h3 : (∀ x, nsFind es x = f x)) (h4 : es.size ≤ k) : AtO o f k
theorem atO_nil : AtO emptyDict (fun _ => none) 0 := ⟨#[], _, rfl, fun e he => by simp at he, fun _ => rfl, Nat.le_refl _⟩
theorem atO_look {o : Obj} {f : Vm} {k : Nat} (h : AtO o f k) (x : Str) : lookIn x o = some (f x) := by
  refine und fun Gq hGq => ?_
  obtain ⟨es, ep, hd, hk, hf, _⟩ := h
  refine hGq ?_
  clear hGq Gq
  unfold lookIn
  rw [hd]
  dsimp only
  have hn : es.toList.any (·.refKey) = false := by
    rw [List.any_eq_false]
    intro e he
    obtain ⟨n, t, q⟩ := hk e (Array.mem_toList_iff.mp he)
    simp [DictEntry.refKey, q]
  have hq := hf x
  unfold nsFind findBy at hq
  rw [← Array.find?_toList] at hq
  cases q : es.toList.find? (fun e => e.key.isStr x) with
  | some e => rw [q] at hq; rw [← hq]; rfl
  | none => rw [q] at hq; rw [← hq, hn]; rfl

theorem ns_set {M : Model} {A : Around} {E : Value → Shared → Prop} {s : Shared} {dx : Addr} {od : Obj} {f : Vm} {k k' : Nat} {x : Str} {v : Value} {Q : Unit → Shared → Prop} (hd : s.heap.get? dx = some od) (ha : AtO od f k)
    (hkk : ((f x).isSome = true ∧ k' = k) ∨ k' = k + 1) (h : ∀ h' od', Heap.SameBut dx s.heap h' → h'.get? dx = some od' → AtO od' (upd f x v) k' → Q () { s with heap := h', toks := s.toks + 1 }) : wpAny M A (nsSet dx x v) Q E s := by
  refine und fun Gq hGq => ?_
  obtain ⟨es, ep, hdd, hk, hf, hz⟩ := ha
  refine hGq ?_
  clear hGq Gq
  unfold nsSet
  refine wpAny_bind (wpAny_bind (wpAny_askSetting (wpAny_pure (wpAny_bind (wpAny_mkText (wpAny_bind (wpAny_loadPart hd ?_)))))))
  have hany : es.any (·.refKey) = false := by
    rw [Array.any_eq_false']; intro e he; obtain ⟨n, t, q⟩ := hk e he; simp [DictEntry.refKey, q]
  rw [hdd]
  dsimp only
  rw [aRefKeyMayBeTheName_at, hany, Bool.and_false, if_neg Bool.false_ne_true]
  refine wpAny_bind (wpAny_pure ?_)
  refine und fun Gq hGq => ?_
  obtain ⟨c, d, dt, sl⟩ := od
  refine hGq ?_
  clear hGq Gq
  dsimp only at hdd
  subst hdd
  generalize M.w.params.strHash x.cps = hsh
  have key : ∀ hs kt, ∃ od', Obj.putName x hs (.str x kt) v ⟨c, d, .dict es ep, sl⟩ = od' ∧ od'.isFreed = false ∧ AtO od' (upd f x v) k' := fun hs kt => by
    cases hi : es.findIdx? (·.key.isStr x) with
    | some i =>
      refine ⟨_, rfl, by simp only [Obj.putName_eq, Obj.putNameByArray, hi]; rfl, es.modify i (fun e => { e with val := v }), ep, by simp only [Obj.putName_eq, Obj.putNameByArray, hi], hk.modify _ _, fun y => ?_, ?_⟩
      · show _ = if y = x then some v else f y
        rw [← hf]; exact findBy_modify (fun n v => v.isStr n) Value.isStr_inj es x y v i hi
      · rw [Array.size_modify]; omega
    | none =>
      refine ⟨_, rfl, by simp only [Obj.putName_eq, Obj.putNameByArray, hi]; rfl, es.push ⟨hs, .str x kt, v⟩, ep + 1, by simp only [Obj.putName_eq, Obj.putNameByArray, hi], hk.push _ _ _ _, fun y => ?_, ?_⟩
      · show _ = if y = x then some v else f y
        rw [← hf]
        exact findBy_push (fun n v => v.isStr n) es x y _ _ v (fun y => by
          show (x == y) = decide (y = x)
          by_cases h : y = x
          · subst h; simp
          · have : ¬ x = y := fun e => h e.symm
            simp [h, this]) hi
      · rw [Array.size_push]
        rcases hkk with ⟨q, _⟩ | q
        · exfalso
          rw [← hf x] at q
          unfold nsFind at q
          rw [findBy_of_findIdx?, hi] at q
          cases q
        · omega
  refine und fun Gq hGq => ?_
  obtain ⟨od', e, fr, ao⟩ := key _ _
  refine hGq ?_
  refine wpAny_updatePart hd (h _ od' (Heap.SameBut.update ..) ?_ ao)
  rw [← e]
  exact Heap.get?_update_self _ hd (by rw [e]; exact fr)

section
variable {prog : Program} {w : World} {A : Around} {env : Env} {m : Vm} {g : Org} {W : Wd} {X : Led} {K : Frag} {x C dx : Addr} {od : Obj} {f : Vm} {k : Nat} {name : Str} {v : Value} {s : Shared}

theorem St.inst (S : St W X s.heap) (hx : Has W X x (instObj C dx)) (hd : Has W X dx od) : InstAt s.heap x (instObj C dx) C (some od) := ⟨S.has hx, rfl, rfl, S.has hd⟩

theorem at_get {attr : Option Value} {Q : Value → Vm → Wd → Led → Prop} {expr : Bool} (G : GW w K W) (hx : Has W X x (instObj C dx)) (hd : Has W X dx od) (ha : AtO od f k) (hg : plainGet K C name = true) (hh : hasDictIn K C = true)
    (hf : findIn K (.ref C) name = some attr) (hn : noGet K attr = true) (hv : f name = some v) (hi : handedIn v = true) (h : Q v m W X) : Tr prog w A env g m W X (getAttr (.ref x) name expr) Q := .mk fun s Cu =>
  get_value (G.inH Cu.adv.st) (Cu.adv.st.inst hx hd) (plainGet_of hg).1 (findObj_own hh hf hn (by rw [atO_look ha, hv])) hi ⟨_, _, _, Cu.toks _, h⟩
theorem at_meth {fn : Addr} {pl : Sem Bool} {Q : Value × List Value → Vm → Wd → Led → Prop} (G : GW w K W) (hx : Has W X x (instObj C dx)) (hd : Has W X dx od) (ha : AtO od f k) (hg : plainGet K C name = true)
    (hf : findIn K (.ref C) name = some (some (.ref fn))) (ht : isFn K (.ref fn) = true) (hv : f name = none) (h : Q (.ref fn, [.ref x]) m W X) : Tr prog w A env g m W X (getMethod (.ref x) name pl) Q := .mk fun s Cu =>
  method_fn (G.inH Cu.adv.st) (Cu.adv.st.inst hx hd) (plainGet_of hg).1 (plainGet_of hg).2 hf (beq_iff_eq.mp ht) (by show (lookIn name od).map _ = _; rw [atO_look ha, hv]; rfl) ⟨_, _, _, Cu, h⟩
theorem at_set {X' : Led} {k' : Nat} {Q : Unit → Vm → Wd → Led → Prop} (G : GW w K W) (hx : Has W ((dx, od) :: X') x (instObj C dx)) (ha : AtO od f k)
    (hs : findIn K (.ref C) "__setattr__" = some (some (.builtin "object.__setattr__"))) (hp : plainOver K C = true) (ht : takerIn K C name = some none) (hh : hasDictIn K C = true) (hk : k' ≤ 1000) (hkk : ((f name).isSome = true ∧ k' = k) ∨ k' = k + 1)
    (h : ∀ od', AtO od' (upd f name v) k' → Q () m W ((dx, od') :: X')) : Tr prog w A env g m W ((dx, od) :: X') (setAttr (.ref x) name v) Q := .mk fun s Cu => by
  have hd : Has W ((dx, od) :: X') dx od := .inr List.mem_cons_self
  have I := Cu.adv.st.inst hx hd
  have X₀ := G.inH Cu.adv.st
  refine set_plain X₀ I hs (osa_open (s := { s with toks := s.toks + 1 }) X₀ I hp ht fun b => ?_)
  obtain ⟨cd, hc, hd'⟩ := any_some hh
  refine wpAny_bind (wpAny_pure (wpAny_bind (wpAny_bind (wpAny_loadPart (Cu.adv.st.has hx) (wpAny_bind (Looks.here (s := { s with toks := s.toks + 1 }) (looks_clsIn X₀ hc) ?_))))))
  rw [hd']
  refine wpAny_pure (a := some dx) (wpAny_bind (wpAny_pure (wpAny_bind ?_)))
  refine ns_set (s := { s with toks := s.toks + 1 }) (Cu.adv.st.has hd) ha hkk fun h' od' hs' ho' ao => ?_
  have hz := ao
  refine und fun Gq hGq => ?_
  obtain ⟨es, ep, e1, _, _, e2⟩ := hz
  refine hGq ?_
  clear hGq Gq
  refine wpAny_bind (wpAny_lookBehind (s := { s with heap := h', toks := s.toks + 1 + 1 }) ho' (by rw [e1]; exact pastItsLine_dict (by rw [sizeLine_eq]; omega)) ?_)
  exact wpAny_pure ⟨_, _, _, Cu.set hs' ho' _, h od' ao⟩

/-- an object made: its two objects at the head of X, then __init__ -/
theorem at_make {Q : Value → Wd → Led → Prop} {fI : Addr} {vals : List Value} (G : GW w K W) (hm : makesIn K C = true) (hi : findIn K (.ref C) "__init__" = some (some (.ref fI))) (hf : typeIn K (.ref fI) = some (.type "function"))
    (h : ∀ x dx, W x = none → x ∉ adr X → W dx = none → dx ∉ adr X → x ≠ dx → Cl prog w (A.under (.builtin "type.__call__" ⟨.ref C :: vals, []⟩)) W ((x, instObj C dx) :: (dx, emptyDict) :: X) (.ref fI) (.ref x :: vals) fun r W' X' => r = .none ∧ Q (.ref x) W' X') :
    Cl prog w A W X (.ref C) vals Q := .mk fun s S => by
  refine und fun Gq hGq => ?_
  obtain ⟨hh, gg, d, t, os⟩ := s
  refine hGq ?_
  clear hGq Gq
  have X₀ := G.inH S
  refine make_core (makes_of X₀ hm) (looks_findIn X₀ hi) (fun self => bind_fn X₀ self hf) (.inl rfl) ?_
  have D1 := ((Adv.org (s := ⟨hh, gg, d, t, os⟩) S).push emptyDict).push (instObj C hh.objs.size)
  have sz : (hh.push emptyDict).objs.size = hh.objs.size + 1 := Heap.size_push ..
  simp only [sz] at D1
  have nd := D1.st.nd
  simp only [adr_cons] at nd
  have nd1 := List.nodup_cons.mp nd
  have nd2 := List.nodup_cons.mp nd1.2
  refine codeAny_mono ((h (hh.objs.size + 1) hh.objs.size (D1.st.xw _ _ List.mem_cons_self) (fun q => nd1.1 (List.mem_cons_of_mem _ q)) (D1.st.xw _ _ (List.mem_cons_of_mem _ List.mem_cons_self)) nd2.1 (Nat.succ_ne_self _)).run _ D1.st) fun r s' hr => ?_
  refine und fun Gq hGq => ?_
  obtain ⟨v, W', X', rfl, D, rfl, q⟩ := hr
  refine hGq ?_
  clear hGq Gq
  exact ⟨rfl, _, W', X', rfl, D1.step D, q⟩
end
end
section -- Ls
section
variable {env : Env} {m : Vm} {g : Org} {W : Wd} {X : Led} {s : Shared}
theorem Cur.keep {h' : Heap} (C : Cur env m g W X s) (hk : ∀ b o, s.heap.get? b = some o → h'.get? b = some o) (tk : Nat) : Cur env m g W X { s with heap := h', toks := tk } :=
  C.side (B := fun _ => False) ⟨nofun, nofun, nofun, nofun⟩ fun b o _ e => hk b o e
/-- an object that was not there: to the world -/
theorem Cur.born {s' : Shared} {a : Addr} {o : Obj} (C : Cur env m g W X s) (C' : Cur env m g W X s') (h0 : s.heap.get? a = none) (h1 : s'.heap.get? a = some o) : Cur env m g (put W a o) X s' ∧ W a = none := by
  have hw : W a = none := by
    cases q : W a with
    | none => rfl
    | some o' => rw [C.adv.st.w a o' q] at h0; cases h0
  have hx : a ∉ adr X := fun hm => by
    obtain ⟨o', hm⟩ := mem_adr.mp hm
    rw [C.adv.st.x a o' hm] at h0; cases h0
  refine ⟨⟨⟨C'.adv.rest, ⟨fun b p e => ?_, C'.adv.st.x, fun b p hm => ?_, C'.adv.st.nd⟩, C'.adv.sub.trans (put_le hw), C'.adv.keep, fun b p e => ?_, C'.adv.xfr⟩, ⟨C'.fm.loc, ?_, C'.fm.lx, fun x b hc => ?_, C'.fm.inj⟩, C'.ok⟩, hw⟩
  · unfold put at e
    by_cases q : b = a
    · subst q; rw [if_pos rfl] at e; cases e; exact h1
    · rw [if_neg q] at e; exact C'.adv.st.w b p e
  · have : b ≠ a := fun q => hx (q ▸ mem_adr_of hm)
    exact (if_neg this).trans (C'.adv.st.xw b p hm)
  · unfold put at e
    by_cases q : b = a
    · subst q
      cases r : g.s.heap.get? b with
      | none => exact .inr (.inr rfl)
      | some o' => exact .inr (.inl (Classical.byContradiction fun hn => by rw [C.adv.keep b o' r hn] at h0; cases h0))
    · rw [if_neg q] at e; exact C'.adv.fr b p e
  · have : env.locals ≠ a := fun q => by
      refine und fun Gq hGq => ?_
      obtain ⟨ml, ⟨o', _, _, e, _⟩, _⟩ := C.fm.loc
      refine hGq ?_
      clear hGq Gq
      rw [q, h0] at e; cases e
    exact (if_neg this).trans C'.fm.lw
  · obtain ⟨c1, c2, c3, c4⟩ := C'.fm.cel x b hc
    refine und fun Gq hGq => ?_
    obtain ⟨⟨o', e, _⟩, _, _, _⟩ := C.fm.cel x b hc
    refine hGq ?_
    clear hGq Gq
    have : b ≠ a := fun q => by rw [q, h0] at e; cases e
    exact ⟨c1, (if_neg this).trans c2, c3, c4⟩
theorem fresh_size {h : Heap} : h.get? h.objs.size = none := by
  cases q : h.get? h.objs.size with
  | none => rfl
  | some o => exact absurd (Heap.lt_size q) (Nat.lt_irrefl _)

/-- the ledger form of the kit's rules -/
noncomputable def heap0 : Heap := {}
theorem heap0_get (a : Addr) : heap0.get? a = none := by
  cases q : heap0.get? a with
  | none => rfl
  | some o => exact absurd (Heap.lt_size q) (Nat.not_lt_zero _)
theorem Cur.frn (C : Cur env m g W X s) : ∃ ml news, Fr heap0 env.locals s.heap ml ∧ News heap0 env.locals s.heap news ∧
    ∀ h' tk, Fr heap0 env.locals h' ml → News heap0 env.locals h' news → Cur env m g W X { s with heap := h', toks := tk } := by
  obtain ⟨ml, hn, hm⟩ := C.fm.loc
  refine ⟨ml, (List.range s.heap.objs.size).filterMap (fun b => if b = env.locals then none else (s.heap.get? b).map fun o => (b, o)), ⟨hn, fun b o e => (by rw [heap0_get] at e; cases e), Nat.zero_le _⟩, fun p hp => ?_, fun h' tk F' N' => ?_⟩
  · obtain ⟨b, _, e⟩ := List.mem_filterMap.mp hp
    by_cases q : b = env.locals
    · rw [if_pos q] at e; cases e
    · rw [if_neg q] at e
      cases r : s.heap.get? b with
      | none => rw [r] at e; cases e
      | some o => rw [r] at e; cases e; exact ⟨r, q, heap0_get _⟩
  · have kp : ∀ b o, b ≠ env.locals → s.heap.get? b = some o → h'.get? b = some o := fun b o q e =>
      N'.get (List.mem_filterMap.mpr ⟨b, List.mem_range.mpr (Heap.lt_size e), by rw [if_neg q, e]; rfl⟩)
    refine ⟨⟨?_, ⟨fun b o e => kp b o (fun q => ?_) (C.adv.st.w b o e), fun b o e => kp b o (fun q => ?_) (C.adv.st.x b o e), C.adv.st.xw, C.adv.st.nd⟩, C.adv.sub, fun b o e hx => kp b o (fun q => ?_) (C.adv.keep b o e hx), C.adv.fr, C.adv.xfr⟩,
      ⟨⟨ml, F'.ns, hm⟩, C.fm.lw, C.fm.lx, fun x b hc => ?_, C.fm.inj⟩, C.ok⟩
    · obtain ⟨h, t, e⟩ := C.adv.rest
      exact ⟨h', tk, by rw [e]⟩
    · rw [q, C.fm.lw] at e; cases e
    · exact C.fm.lx (q ▸ mem_adr_of e)
    · rcases C.ok b (.inl q) with h | h
      · exact hx h
      · rw [h] at e; cases e
    · obtain ⟨⟨o, e, hd⟩, c2, c3, c4⟩ := C.fm.cel x b hc
      exact ⟨⟨o, kp b o c4 e, hd⟩, c2, c3, c4⟩
end

/-- a list apart, as made -/
noncomputable def PlO (o : Obj) (vs : List Value) : Prop := ∃ n, o = { cls := .type "list", data := .seq vs.toArray n }
theorem plO (vs : List Value) : PlO { cls := .type "list", data := .seq vs.toArray } vs := ⟨_, rfl⟩
theorem PlO.lst {o : Obj} {vs : List Value} (h : PlO o vs) : LstO o vs := by obtain ⟨n, rfl⟩ := h; exact ⟨rfl, n, rfl⟩
noncomputable def RngW (W : Wd) (r : Addr) (a b : Int) : Prop := ∃ t u v, W r = some { cls := .type "range", dict := none, data := .fields #[.int a t, .int b u, .int 1 v], slots := #[] }
theorem RngW.up {W W' : Wd} {r : Addr} {a b : Int} (x : RngW W r a b) (h : Le W W') : RngW W' r a b := let ⟨t, u, v, e⟩ := x; ⟨t, u, v, h _ _ e⟩
noncomputable def SlcW (W : Wd) (r : Addr) (a b : Value) : Prop := W r = some { cls := .type "slice", data := .fields #[a, b, .none] }

/-- a row of related things -/
inductive All2 {α β : Type} (R : α → β → Prop) : List α → List β → Prop
  | nil : All2 R [] []
  | cons {a b as bs} : R a b → All2 R as bs → All2 R (a :: as) (b :: bs)
namespace All2
variable {α β : Type} {R S : α → β → Prop}
theorem length : ∀ {as : List α} {bs : List β}, All2 R as bs → as.length = bs.length
  | _, _, .nil => rfl
  | _, _, .cons _ h => by rw [List.length_cons, List.length_cons, h.length]
theorem mono (k : ∀ a b, R a b → S a b) : ∀ {as : List α} {bs : List β}, All2 R as bs → All2 S as bs
  | _, _, .nil => .nil
  | _, _, .cons h r => .cons (k _ _ h) (r.mono k)
theorem append : ∀ {as as' : List α} {bs bs' : List β}, All2 R as bs → All2 R as' bs' → All2 R (as ++ as') (bs ++ bs')
  | _, _, _, _, .nil, h => h
  | _, _, _, _, .cons x r, h => .cons x (r.append h)
theorem drop : ∀ (k : Nat) {as : List α} {bs : List β}, All2 R as bs → All2 R (as.drop k) (bs.drop k)
  | 0, _, _, h => h
  | _ + 1, _, _, .nil => .nil
  | k + 1, _, _, .cons _ r => r.drop k
theorem take : ∀ (k : Nat) {as : List α} {bs : List β}, All2 R as bs → All2 R (as.take k) (bs.take k)
  | 0, _, _, _ => .nil
  | _ + 1, _, _, .nil => .nil
  | k + 1, _, _, .cons x r => .cons x (r.take k)
theorem get : ∀ {as : List α} {bs : List β} (i : Nat) (b : β), All2 R as bs → bs[i]? = some b → ∃ a, as[i]? = some a ∧ R a b
  | _, _, i, b, .nil, h => by simp at h
  | _, _, 0, b, .cons x r, h => by simp at h; subst h; exact ⟨_, rfl, x⟩
  | _, _, i + 1, b, .cons x r, h => by simpa using r.get i b (by simpa using h)
theorem get' : ∀ {as : List α} {bs : List β} (i : Nat) (a : α), All2 R as bs → as[i]? = some a → ∃ b, bs[i]? = some b ∧ R a b
  | _, _, i, b, .nil, h => by simp at h
  | _, _, 0, b, .cons x r, h => by simp at h; subst h; exact ⟨_, rfl, x⟩
  | _, _, i + 1, b, .cons x r, h => by simpa using r.get' i b (by simpa using h)
theorem snoc {as : List α} {bs : List β} {a : α} {b : β} (h : All2 R as bs) (x : R a b) : All2 R (as ++ [a]) (bs ++ [b]) := h.append (.cons x .nil)
theorem set : ∀ (k : Nat) {as : List α} {bs : List β} {a : α} {b : β}, All2 R as bs → R a b → All2 R (as.set k a) (bs.set k b)
  | _, _, _, _, _, .nil, _ => by simpa using All2.nil
  | 0, _, _, _, _, .cons _ r, h => .cons h r
  | k + 1, _, _, _, _, .cons x r, h => .cons x (r.set k h)
end All2

theorem ints_of_get : ∀ (vs : List Value) (f : Nat → Int), (∀ i v, vs[i]? = some v → ∃ t, v = Value.int (f i) t) → IntsAre vs ((List.range vs.length).map f)
  | [], _, _ => .nil
  | v :: r, f, h => by
    obtain ⟨t, rfl⟩ := h 0 v rfl
    rw [List.length_cons, List.range_succ_eq_map, List.map_cons, List.map_map]
    exact .cons _ t (ints_of_get r (fun i => f (i + 1)) fun i v e => h (i + 1) v e)

section
variable {prog : Program} {w : World} {A : Around} {env : Env} {g : Org} {m : Vm} {W : Wd} {X : Led} {Q : Value → Vm → Wd → Led → Prop}

theorem Tr.front {α : Type} {t : Sem α} {Q : α → Vm → Wd → Led → Prop} {X1 X2 : Led} {p : Addr × Obj} (h : Tr prog w A env g m W (p :: (X1 ++ X2)) t Q) : Tr prog w A env g m W (X1 ++ p :: X2) t Q :=
  h.drop (fun q hq => by simp only [List.mem_cons, List.mem_append] at hq ⊢; rcases hq with h | h | h <;> simp [h]) fun hn => by
    have pm : (adr (X1 ++ p :: X2)).Perm (adr (p :: (X1 ++ X2))) := List.Perm.map _ List.perm_middle
    exact pm.nodup_iff.mp hn
theorem Tr.perm {α : Type} {t : Sem α} {Q : α → Vm → Wd → Led → Prop} {X' : Led} (hp : X.Perm X') (h : Tr prog w A env g m W X' t Q) : Tr prog w A env g m W X t Q :=
  h.drop (fun q hq => hp.mem_iff.mpr hq) fun hn => (List.Perm.map (f := Prod.fst) (hp)).nodup_iff.mp hn
theorem Tr.sub {α : Type} {t : Sem α} {Q : α → Vm → Wd → Led → Prop} {X' : Led} (hp : X'.Sublist X) (h : Tr prog w A env g m W X' t Q) : Tr prog w A env g m W X t Q :=
  h.drop (fun q hq => hp.subset hq) fun hn => List.Sublist.nodup (hp.map _) hn
/-- at the end: X' for X -/
theorem Tr.post {α : Type} {t : Sem α} {Q : α → Vm → Wd → Led → Prop} (h : Tr prog w A env g m W X t fun a m' W' X' => ∃ X'', X'.Perm X'' ∧ Q a m' W' X'') : Tr prog w A env g m W X t Q :=
  .mk fun s C => h.go C fun a s' m' W' X' C' ⟨X'', hp, q⟩ => ⟨m', W', X'', C'.drop (fun p hq => hp.mem_iff.mpr hq) ((List.Perm.map (f := Prod.fst) hp).nodup_iff.mp C'.adv.st.nd), q⟩
theorem Tr.postS {α : Type} {t : Sem α} {Q : α → Vm → Wd → Led → Prop} (h : Tr prog w A env g m W X t fun a m' W' X' => ∃ X'', X''.Sublist X' ∧ Q a m' W' X'') : Tr prog w A env g m W X t Q :=
  .mk fun s C => h.go C fun a s' m' W' X' C' ⟨X'', hp, q⟩ => ⟨m', W', X'', C'.drop (fun p hq => hp.subset hq) (List.Sublist.nodup (hp.map _) C'.adv.st.nd), q⟩
/-- a call by its contract over all of X -/
theorem Tr.callA {f : Value} {args : List Value} {P : Value → Wd → Led → Prop} (h : Cl prog w A W X f args P) (k : ∀ v W' X', Le W W' → P v W' X' → Q v m W' X') : Tr prog w A env g m W X (PySem.call f args) Q := by
  have h' : Cl prog w A W X f args P := h
  have := Tr.call (Xr := []) (Q := Q) (m := m) (env := env) (g := g) h' fun v W' X' le p => by rw [List.append_nil]; exact k v W' X' le p
  rwa [List.append_nil] at this

theorem Tr.callAG {f : Value} {args : List Value} {P : Value → Wd → Led → Prop} (h : Cl prog w A W X f args P) (k : ∀ (Gq : Value → Led → Prop) W' v X', Le W W' → (∀ v X', Imp (Q v m W' X') (Gq v X')) → P v W' X' → Gq v X') : Tr prog w A env g m W X (PySem.call f args) Q :=
  Tr.callA h fun v W' X' le p => k (fun v X' => Q v m W' X') W' v X' le (fun _ _ h => h) p

/-! slices -/
noncomputable abbrev KSl2 (l : Value) (Q : Value → Vm → Wd → Led → Prop) : Value → Vm → Wd → Led → Prop := fun u m W X => ∀ a W', SlcW W' a l u → Le W W' → Q (.ref a) m W' X
noncomputable abbrev KSl (prog : Program) (w : World) (A : Around) (env : Env) (g : Org) (up : Option Expr) (Q : Value → Vm → Wd → Led → Prop) : Value → Vm → Wd → Led → Prop := fun l m W X => Tr prog w A env g m W X (evalPart up env) (KSl2 l Q)
theorem ep_none {Q : Value → Vm → Wd → Led → Prop} (h : Q .none m W X) : Tr prog w A env g m W X (evalPart none env) Q := by rw [evalPart_none]; exact Tr.pure h
theorem ep_some {e : Expr} (h : Tr prog w A env g m W X (eval e env) Q) : Tr prog w A env g m W X (evalPart (some e) env) Q := by rw [evalPart_some]; exact h
theorem ev_slc {lo up : Option Expr} {p : Pos} (h : Tr prog w A env g m W X (evalPart lo env) (KSl prog w A env g up Q)) :
    Tr prog w A env g m W X (eval (.Slice lo up none p) env) Q := .mk fun s C => by
  refine wpAny_Slice (h.go C fun l s₁ m₁ W₁ X₁ C₁ h₁ => h₁.go C₁ fun u s₂ m₂ W₂ X₂ C₂ h₂ => ?_)
  rw [evalPart_none]
  refine wpAny_pure ?_
  have B := C₂.pushW { cls := .type "slice", data := .fields #[l, u, .none] }
  exact ⟨_, _, _, B.1, h₂ _ _ put_same (put_le B.2)⟩
noncomputable def ends (n : Nat) : Value → Nat → Nat
  | .int i _, _ => min i.toNat n
  | _, d => d
theorem su_slc {value slice : Expr} {l sl : Addr} {vs : List Value} {a b : Value} {lo hi : Option Int} (hl : LstX W X l vs) (hs : SlcW W sl a b) (ha : IsPart a lo) (hb : IsPart b hi) (h0 : ∀ i, lo = some i → 0 ≤ i) (h1 : ∀ i, hi = some i → 0 ≤ i) (hz : vs.length ≤ sizeLine)
    {ops : List Value} (he : subscripted slice false (.ref l) (.ref sl) = operate ops (getItem (.ref l) (.ref sl)))
    (h : ∀ r W', W' r = some { cls := .type "list", data := .seq (((vs.take (hi.elim vs.length Int.toNat)).drop (lo.elim 0 Int.toNat))).toArray } → Le W W' → Q (.ref r) m W' X) : Tr prog w A env g m W X (subscriptTail value slice (.ref l) (.ref sl)) Q := .mk fun s C => by
  have hL := C.adv.st.lst hl
  refine tail_any hL.typeIs slot_list_getitem.lookup (wpAny_getItem_list_slice hL ⟨_, C.adv.st.w _ _ hs, rfl, rfl⟩ ha hb IsPart.none (by simp) ?_ (by rw [List.size_toArray]; exact hz)) he
  have B := C.pushW { cls := .type "list", data := .seq (slicePick vs.toArray lo hi none) }
  refine ⟨_, _, _, B.1, h _ _ ?_ (put_le B.2)⟩
  rw [put_same, slicePick_plain]
  have e1 : ∀ i : Int, 0 ≤ i → clipAt vs.length i = min i.toNat vs.length := fun i q => by
    have := clipAt_nat vs.length i.toNat
    rwa [Int.toNat_of_nonneg q] at this
  congr 4
  rw [List.drop_take]
  cases lo with
  | none =>
    cases hi with
    | none => simp
    | some j =>
      have := e1 j (h1 j rfl)
      simp only [Option.elim, List.size_toArray, this, Nat.sub_zero, List.drop_zero]
      by_cases q : j.toNat ≤ vs.length
      · rw [Nat.min_eq_left q]
      · rw [Nat.min_eq_right (Nat.le_of_not_le q), List.take_of_length_le (Nat.le_refl _), List.take_of_length_le (Nat.le_of_not_le q)]
  | some i =>
    have hi' := e1 i (h0 i rfl)
    by_cases q : i.toNat ≤ vs.length
    · cases hi with
      | none => simp only [Option.elim, List.size_toArray, hi', Nat.min_eq_left q]
      | some j =>
        have := e1 j (h1 j rfl)
        simp only [Option.elim, List.size_toArray, this, hi', Nat.min_eq_left q]
        by_cases q' : j.toNat ≤ vs.length
        · rw [Nat.min_eq_left q']
        · rw [Nat.min_eq_right (Nat.le_of_not_le q'), List.take_of_length_le (by rw [List.length_drop]; exact Nat.le_refl _), List.take_of_length_le (by rw [List.length_drop]; exact Nat.sub_le_sub_right (Nat.le_of_not_le q') _)]
    · have q' := Nat.le_of_not_le q
      have e2 : vs.drop i.toNat = [] := List.drop_eq_nil_of_le q'
      have e3 : vs.drop vs.length = [] := List.drop_eq_nil_of_le (Nat.le_refl _)
      simp only [Option.elim, List.size_toArray, hi', Nat.min_eq_right q', e2, e3, List.take_nil]

/-! + -/
theorem bo_addl {l b : Addr} {vs ws : List Value} (hl : LstX W X l vs) (hb : LstX W X b ws) (hz : vs.length + ws.length ≤ sizeLine)
    (h : ∀ r W', W' r = some { cls := .type "list", data := .seq (vs ++ ws).toArray } → Le W W' → Q (.ref r) m W' X) : Tr prog w A env g m W X (binaryOp .Add (.ref l) (.ref b)) Q := .mk fun s C => by
  refine und fun Gq hGq => ?_
  obtain ⟨ml, news, F, N, back⟩ := C.frn
  refine hGq ?_
  clear hGq Gq
  refine add_lists F N (C.adv.st.lst hl) (C.adv.st.lst hb) (fun h' F' N' => ?_) hz
  have C' := back h' s.toks F' fun p hp => N' p (List.mem_cons_of_mem _ hp)
  have B := C.born C' fresh_size (N'.get List.mem_cons_self)
  exact ⟨_, _, _, B.1, h _ _ put_same (put_le B.2)⟩
theorem bo_addt {l b : Addr} {vs ws : List Value} {n k : Nat} (hl : W l = some { cls := .type "tuple", data := .seq vs.toArray n }) (hb : W b = some { cls := .type "tuple", data := .seq ws.toArray k }) (h1 : vs ≠ []) (h2 : ws ≠ []) (hz : vs.length + ws.length ≤ sizeLine)
    (h : ∀ r W', W' r = some { cls := .type "tuple", data := .seq (vs ++ ws).toArray } → Le W W' → Q (.ref r) m W' X) : Tr prog w A env g m W X (binaryOp .Add (.ref l) (.ref b)) Q := .mk fun s C => by
  refine P.add_tuple (n := n) (n2 := k) (C.adv.st.w _ _ hl) (C.adv.st.w _ _ hb) (by simpa using h1) (by simpa using h2) ?_ (by simpa using hz)
  have B := C.pushW { cls := .type "tuple", data := .seq (vs.toArray ++ ws.toArray) }
  exact ⟨_, _, _, B.1, h _ _ (by rw [put_same]; simp) (put_le B.2)⟩

/-! append -/
theorem gm_app {l : Addr} {o : Obj} {vs : List Value} {pl : Sem Bool} {Q : Value × List Value → Vm → Wd → Led → Prop} (hl : Has W X l o) (ho : PlO o vs) (h : Q (.builtin "list.append", [.ref l]) m W X) : Tr prog w A env g m W X (getMethod (.ref l) "append" pl) Q := .mk fun s C => by
  have e := C.adv.st.has hl
  obtain ⟨n, rfl⟩ := ho
  refine getMethod_list_of PySem.F.slot_list_append PySem.F.type_list_append (C.adv.st.lst ⟨_, hl, rfl, _, rfl⟩) ?_ ⟨_, _, _, C, h⟩
  exact ⟨_, e, rfl⟩
theorem ca_app {l : Addr} {o : Obj} {vs : List Value} {X' : Led} {v : Value} (ho : PlO o vs) (hz : vs.length ≤ sizeLine) (h : ∀ o', PlO o' (vs ++ [v]) → Q .none m W ((l, o') :: X')) : Tr prog w A env g m W ((l, o) :: X') (call (.builtin "list.append") [.ref l, v]) Q := .mk fun s C => by
  obtain ⟨n, rfl⟩ := ho
  refine wpAny_list_append_plain (x := v) ⟨n, C.adv.st.x _ _ List.mem_cons_self⟩ (fun h' hl' hs => ?_) (by rw [List.size_toArray]; exact hz)
  obtain ⟨n', e⟩ := hl'
  exact ⟨_, _, _, C.set hs e, h _ ⟨n', by simp⟩⟩

/-! ranges -/
theorem ca_range1 {n : Int} {t : Tok} (h : ∀ r W', RngW W' r 0 n → Le W W' → Q (.ref r) m W' X) : Tr prog w A env g m W X (call (.type "range") [.int n t]) Q := .mk fun s C => by
  refine call_range_1 ?_
  have B := C.pushW { cls := .type "range", data := .fields #[.int 0 s.toks, .int n t, .int 1 (s.toks + 1)] }
  exact ⟨_, _, _, B.1.toks _, h _ _ ⟨_, _, _, put_same⟩ (put_le B.2)⟩
theorem ca_range2 {a b : Int} {t u : Tok} (h : ∀ r W', RngW W' r a b → Le W W' → Q (.ref r) m W' X) : Tr prog w A env g m W X (call (.type "range") [.int a t, .int b u]) Q := .mk fun s C => by
  refine call_range_2 ?_
  have B := C.pushW { cls := .type "range", data := .fields #[.int a t, .int b u, .int 1 s.toks] }
  exact ⟨_, _, _, B.1.toks _, h _ _ ⟨_, _, _, put_same⟩ (put_le B.2)⟩
theorem itr_range (hh : A.handled = none) {r : Addr} {a b : Int} {n : Nat} (hr : RngW W r a b) (hs : Builtin.Range.small a b 1 = true) (hn : Builtin.Range.rangeSize a b 1 = n) : Itr prog w A W X (.ref r) X n fun i v => ∃ t, v = .int (a + i) t where
  sub := fun _ h => h
  nd := fun h => h
  run := fun s S => by
    refine und fun Gq hGq => ?_
    obtain ⟨t, u, v, e⟩ := hr
    refine hGq ?_
    clear hGq Gq
    have W' := Walks.range (prog := prog) (w := w) hh s.heap.objs.size a 1 n
    simp only [Int.mul_one] at W'
    refine wpAny_pyIter_range (S.w _ _ e) hs ⟨_, _, _, _, _, _, rfl, rfl, W', ?_, fun b o e => Heap.get?_push_of_some _ e, fun b hb => ?_, fun b hb => ?_, fun i h hs b hb => ?_, fun i s' tg v Q hs hq => ?_⟩
    · show (s.heap.push _).get? _ = _
      rw [hn]
      simpa using Heap.get?_push_size _ rfl
    · rw [List.mem_singleton.mp hb]
      refine .inr ⟨?_, fun hm => ?_, .inl fresh_size⟩
      · cases q : W s.heap.objs.size with
        | none => rfl
        | some o => have := S.w _ _ q; rw [fresh_size] at this; cases this
      · obtain ⟨o, hm⟩ := mem_adr.mp hm
        have := S.x _ _ hm; rw [fresh_size] at this; cases this
    · rw [List.mem_singleton.mp hb]
      cases q : W s.heap.objs.size with
      | none => rfl
      | some o => have := S.w _ _ q; rw [fresh_size] at this; cases this
    · rw [List.mem_singleton.mp hb]; exact ⟨_, hs⟩
    · exact ltg hs rfl rfl (by decide) hq
theorem ca_lrange (hh : A.handled = none) {r : Addr} {a b : Int} {n : Nat} (hr : RngW W r a b) (hs : Builtin.Range.small a b 1 = true) (hn : Builtin.Range.rangeSize a b 1 = n) (hz : n ≤ 2 ^ 24)
    (h : ∀ l W' vs, LstW W' l vs → IntsAre vs ((List.range n).map fun (i : Nat) => a + (i : Int)) → Le W W' → Q (.ref l) m W' X) : Tr prog w A env g m W X (call (.type "list") [.ref r]) Q := .mk fun s C => by
  refine und fun Gq hGq => ?_
  obtain ⟨t, u, v, e⟩ := hr
  refine hGq ?_
  clear hGq Gq
  refine call_list_range hh (C.adv.st.w _ _ e) hs hn hz fun h' tk acc c' hk ho hi => ?_
  have B := C.born (C.keep hk tk) fresh_size ho
  refine ⟨_, _, _, B.1, h _ _ acc.toList ⟨_, put_same, rfl, c', by simp⟩ ?_ (put_le B.2)⟩
  have hsz : acc.toList.length = n := by rw [Array.length_toList]; exact hi.1
  rw [← hsz]
  exact ints_of_get acc.toList (fun i => a + (i : Int)) fun i v hv => by
    have := hi.2 i v (by simpa using hv)
    simpa using this
end
end
section -- Lt
section
variable (prog : Program) (w : World) (A : Around) (env : Env) (g : Org)
noncomputable abbrev KC25 (Q : Bool → Vm → Wd → Led → Prop) (op₂ : CmpOp) (b : Value) : Value → Vm → Wd → Led → Prop := fun d m W X => Tr prog w A env g m W X (compareOp op₂ b d) (KTru prog w A env g Q)
noncomputable abbrev KC24 (Q : Bool → Vm → Wd → Led → Prop) (op₂ : CmpOp) (r₂ : Expr) (b : Value) : Bool → Vm → Wd → Led → Prop := fun t m W X => if t = true then Tr prog w A env g m W X (eval r₂ env) (KC25 prog w A env g Q op₂ b) else Q false m W X
noncomputable abbrev KC23 (Q : Bool → Vm → Wd → Led → Prop) (op₂ : CmpOp) (r₂ : Expr) (b : Value) : Value → Vm → Wd → Led → Prop := fun c m W X => Tr prog w A env g m W X (truthy c) (KC24 prog w A env g Q op₂ r₂ b)
noncomputable abbrev KC22 (Q : Bool → Vm → Wd → Led → Prop) (op₁ op₂ : CmpOp) (r₂ : Expr) (a : Value) : Value → Vm → Wd → Led → Prop := fun b m W X => Tr prog w A env g m W X (compareOp op₁ a b) (KC23 prog w A env g Q op₂ r₂ b)
noncomputable abbrev KC2 (Q : Bool → Vm → Wd → Led → Prop) (op₁ op₂ : CmpOp) (r₁ r₂ : Expr) : Value → Vm → Wd → Led → Prop := fun a m W X => Tr prog w A env g m W X (eval r₁ env) (KC22 prog w A env g Q op₁ op₂ r₂ a)
noncomputable abbrev KE24 (Q : Value → Vm → Wd → Led → Prop) (op₂ : CmpOp) (r₂ : Expr) (b c : Value) : Bool → Vm → Wd → Led → Prop := fun t m W X => if t = true then Tr prog w A env g m W X (eval r₂ env) (KCmp2 prog w A env g op₂ b Q) else Q c m W X
noncomputable abbrev KE23 (Q : Value → Vm → Wd → Led → Prop) (op₂ : CmpOp) (r₂ : Expr) (b : Value) : Value → Vm → Wd → Led → Prop := fun c m W X => Tr prog w A env g m W X (truthy c) (KE24 prog w A env g Q op₂ r₂ b c)
noncomputable abbrev KE22 (Q : Value → Vm → Wd → Led → Prop) (op₁ op₂ : CmpOp) (r₂ : Expr) (a : Value) : Value → Vm → Wd → Led → Prop := fun b m W X => Tr prog w A env g m W X (compareOp op₁ a b) (KE23 prog w A env g Q op₂ r₂ b)
noncomputable abbrev KE2 (Q : Value → Vm → Wd → Led → Prop) (op₁ op₂ : CmpOp) (r₁ r₂ : Expr) : Value → Vm → Wd → Led → Prop := fun a m W X => Tr prog w A env g m W X (eval r₁ env) (KE22 prog w A env g Q op₁ op₂ r₂ a)
noncomputable abbrev KEa2 (y : Expr) (Q : Value → Vm → Wd → Led → Prop) (v : Value) : Bool → Vm → Wd → Led → Prop := fun t m W X => if t = true then Tr prog w A env g m W X (eval y env) Q else Q v m W X
noncomputable abbrev KEa (y : Expr) (Q : Value → Vm → Wd → Led → Prop) : Value → Vm → Wd → Led → Prop := fun v m W X => Tr prog w A env g m W X (truthy v) (KEa2 prog w A env g y Q v)
noncomputable abbrev KSw2 (x₁ x₂ : Str) (Q : Flow → Vm → Wd → Led → Prop) : Value → Vm → Wd → Led → Prop := fun v m W X => ∃ t v₁ v₂, v = .ref t ∧ TupX W X t [v₁, v₂] ∧ Tr prog w A env g m W X (storeName env x₂ v₂) (KSt1 prog w A env g x₁ v₁ (KNext Q))
noncomputable abbrev KSw3 (x₁ x₂ x₃ : Str) (Q : Flow → Vm → Wd → Led → Prop) : Value → Vm → Wd → Led → Prop := fun v m W X => ∃ t v₁ v₂ v₃, v = .ref t ∧ TupX W X t [v₁, v₂, v₃] ∧ Tr prog w A env g m W X (storeName env x₃ v₃) (KSt1 prog w A env g x₂ v₂ (KSt1 prog w A env g x₁ v₁ (KNext Q)))
end
section
variable {prog : Program} {w : World} {A : Around} {env : Env} {g : Org} {m : Vm} {W : Wd} {X : Led} {Q : Value → Vm → Wd → Led → Prop}

/-! chains, and *)-/
theorem it_ch2 {l r₁ r₂ : Expr} {op₁ op₂ : CmpOp} {pos : Pos} {whole : Sem Value} {Q : Bool → Vm → Wd → Led → Prop} (hm : lastMarks [op₁, op₂] [r₁, r₂] = false)
    (h : Tr prog w A env g m W X (eval l env) (KC2 prog w A env g Q op₁ op₂ r₁ r₂)) :
    Tr prog w A env g m W X (isTrue (.Compare l [op₁, op₂] [r₁, r₂] pos) env whole) Q := .mk fun _ C =>
  isTrue_chain (ops := []) (rs := []) (h.go C fun _ _ _ _ _ C₁ h₁ => test_link (h₁.go C₁ fun _ _ _ _ _ C₂ h₂ => h₂.go C₂ fun _ _ _ _ _ C₃ h₃ => h₃.go C₃ fun t _ _ _ _ C₄ h₄ => by
    cases t with
    | false => exact ⟨_, _, _, C₄, h₄⟩
    | true => exact test_last (Tr.go h₄ C₄ fun _ _ _ _ _ C₅ h₅ => h₅.go C₅ fun _ s₆ _ _ _ C₆ h₆ => h₆.run s₆ C₆))) hm
theorem ev_ch2 {l r₁ r₂ : Expr} {op₁ op₂ : CmpOp} {pos : Pos} (hm : lastMarks [op₁, op₂] [r₁, r₂] = false)
    (h : Tr prog w A env g m W X (eval l env) (KE2 prog w A env g Q op₁ op₂ r₁ r₂)) :
    Tr prog w A env g m W X (eval (.Compare l [op₁, op₂] [r₁, r₂] pos) env) Q := .mk fun _ C =>
  Compare_chain (ops := []) (rs := []) (h.go C fun _ _ _ _ _ C₁ h₁ => chain_link (h₁.go C₁ fun _ _ _ _ _ C₂ h₂ => h₂.go C₂ fun _ _ _ _ _ C₃ h₃ => h₃.go C₃ fun t _ _ _ _ C₄ h₄ => by
    cases t with
    | false => exact ⟨_, _, _, C₄, h₄⟩
    | true => exact chain_last (Tr.go h₄ C₄ fun _ s₅ _ _ _ C₅ h₅ => h₅.run s₅ C₅))) hm
theorem ev_and {x y : Expr} {pos : Pos} (h : Tr prog w A env g m W X (eval x env) (KEa prog w A env g y Q)) :
    Tr prog w A env g m W X (eval (.BoolOp .And [x, y] pos) env) Q := .mk fun _ C => wpAny_And2 (h.go C fun _ _ _ _ _ C₁ h₁ => h₁.go C₁ fun t s₂ _ _ _ C₂ h₂ => by
    cases t with
    | false => exact ⟨_, _, _, C₂, h₂⟩
    | true => exact Tr.run h₂ s₂ C₂)

/-! unpacking -/
theorem ai_nil {vs : List Value} {Q : Unit → Vm → Wd → Led → Prop} (h : Q () m W X) : Tr prog w A env g m W X (assignInOrder [] vs) Q := Tr.pure h
theorem ai_cons {t : Value → Sem Unit} {ts : List (Value → Sem Unit)} {v : Value} {vs : List Value} {Q : Unit → Vm → Wd → Led → Prop} (h : Tr prog w A env g m W X (t v) fun _ m W X => Tr prog w A env g m W X (assignInOrder ts vs) Q) :
    Tr prog w A env g m W X (assignInOrder (t :: ts) (v :: vs)) Q := .mk fun _ C => by
  show wpAny _ A (do holding vs (t v); assignInOrder ts vs) _ _ _
  exact wpAny_bind (wpAny_holding (h.go C fun _ s₁ _ _ _ C₁ h₁ => h₁.run s₁ C₁))
theorem as_tup {es : List Expr} {k : Nat} {pos : Pos} {t : Addr} {vs : List Value} {Q : Unit → Vm → Wd → Led → Prop} (hh : A.handled = none) (ht : TupX W X t vs) (hn : (assignEach es env).length = vs.length) (hs : (assignEach es env).findIdx? (·.1) = none)
    (h : Tr prog w A env g m W X (assignInOrder ((assignEach es env).map (·.2)) vs) Q) : Tr prog w A env g m W X (assign (.Tuple es k pos) env (.ref t)) Q := .mk fun s C => by
  refine assign_Tuple_tuple hh (C.adv.st.tup ht) (by simpa using hn) hs fun h' he => ?_
  exact h.run { s with heap := h' } (C.keep (fun b o e => he b o (Nat.ne_of_lt (Heap.lt_size e)) e) s.toks)
theorem as_tup2 {x₁ x₂ : Str} {p₁ p₂ : Pos} {k : Nat} {pos : Pos} {t : Addr} {v₁ v₂ : Value} {Q : Unit → Vm → Wd → Led → Prop} (hh : A.handled = none) (ht : TupX W X t [v₁, v₂])
    (h : Tr prog w A env g m W X (storeName env x₁ v₁) (KSt1 prog w A env g x₂ v₂ Q)) : Tr prog w A env g m W X (assign (.Tuple [.Name x₁ p₁, .Name x₂ p₂] k pos) env (.ref t)) Q :=
  as_tup hh ht rfl rfl (ai_cons (as_name (h.mono fun _ _ _ _ h => ai_cons (as_name (h.mono fun _ _ _ _ h => ai_nil h)))))
theorem as_tup4 {x₁ x₂ x₃ x₄ : Str} {p₁ p₂ p₃ p₄ : Pos} {k : Nat} {pos : Pos} {t : Addr} {v₁ v₂ v₃ v₄ : Value} {Q : Unit → Vm → Wd → Led → Prop} (hh : A.handled = none) (ht : TupX W X t [v₁, v₂, v₃, v₄])
    (h : Tr prog w A env g m W X (storeName env x₁ v₁) (KSt1 prog w A env g x₂ v₂ (KSt1 prog w A env g x₃ v₃ (KSt1 prog w A env g x₄ v₄ Q)))) :
    Tr prog w A env g m W X (assign (.Tuple [.Name x₁ p₁, .Name x₂ p₂, .Name x₃ p₃, .Name x₄ p₄] k pos) env (.ref t)) Q :=
  as_tup hh ht rfl rfl (ai_cons (as_name (h.mono fun _ _ _ _ h => ai_cons (as_name (h.mono fun _ _ _ _ h => ai_cons (as_name (h.mono fun _ _ _ _ h => ai_cons (as_name (h.mono fun _ _ _ _ h => ai_nil h)))))))))
theorem ui_tup {t : Addr} {vs : List Value} {n : Nat} {Q : List Value → Vm → Wd → Led → Prop} (hh : A.handled = none) (ht : TupX W X t vs) (hn : n = vs.length) (h : Q vs m W X) : Tr prog w A env g m W X (unpackItems (.ref t) n none) Q := .mk fun s C => by
  subst hn
  have := unpackItems_tuple (prog := prog) (w := w) (A := A) (E := no) (Q := fun a s' => ∃ m' W' X', Cur env m' g W' X' s' ∧ Q a m' W' X') hh (C.adv.st.tup ht) fun h' he =>
    ⟨m, W, X, C.keep (fun b o e => he b o (Nat.ne_of_lt (Heap.lt_size e)) e) s.toks, h⟩
  simpa using this
theorem ex_sw {es : List Expr} {k : Nat} {tp pos : Pos} {value : Expr} {names : List Str} {Q : Flow → Vm → Wd → Led → Prop} (hh : A.handled = none) (hs : swapsWithSole [.Tuple es k tp] value pos.line env = pure false) (hw : swappedStores [.Tuple es k tp] value env = pure (some names))
    (h : Tr prog w A env g m W X (eval value env) fun v m W X => ∃ t vs, v = .ref t ∧ TupX W X t vs ∧ names.length = vs.length ∧ Tr prog w A env g m W X (assignInOrder (names.reverse.map fun n => bindName env n) vs.reverse) fun _ => Q .next) :
    Tr prog w A env g m W X (exec (.Assign [.Tuple es k tp] value pos) env) Q := .mk fun s C => by
  refine Assign_Tuple_swapped (h.go C fun v s₁ m₁ W₁ X₁ C₁ ⟨t, vs, e, ht, hn, h₁⟩ => ?_) hs hw
  subst e
  exact (ui_tup (Q := fun a m W X => a = vs ∧ m = m₁ ∧ W = W₁ ∧ X = X₁) hh ht hn ⟨rfl, rfl, rfl, rfl⟩).go C₁ fun a s₂ m₂ W₂ X₂ C₂ ⟨e1, e2, e3, e4⟩ => by
    subst e1 e2 e3 e4
    exact h₁.go C₂ fun _ _ _ _ _ C₃ h₃ => ⟨_, _, _, C₃, h₃⟩
theorem bn {x : Str} {v : Value} {Q : Unit → Vm → Wd → Led → Prop} (h : Tr prog w A env g m W X (storeName env x v) Q) : Tr prog w A env g m W X (bindName env x v) Q := .mk fun s C => bindName_ (h.run s C)
theorem ex_sw2 {es : List Expr} {k : Nat} {tp pos : Pos} {value : Expr} {x₁ x₂ : Str} {Q : Flow → Vm → Wd → Led → Prop} (hh : A.handled = none) (hs : swapsWithSole [.Tuple es k tp] value pos.line env = pure false) (hw : swappedStores [.Tuple es k tp] value env = pure (some [x₁, x₂]))
    (h : Tr prog w A env g m W X (eval value env) (KSw2 prog w A env g x₁ x₂ Q)) :
    Tr prog w A env g m W X (exec (.Assign [.Tuple es k tp] value pos) env) Q :=
  ex_sw hh hs hw (h.mono fun v m W X ⟨t, v₁, v₂, e, ht, h⟩ => ⟨t, _, e, ht, rfl, ai_cons (bn (h.mono fun _ _ _ _ h => ai_cons (bn (h.mono fun _ _ _ _ h => ai_nil h))))⟩)
theorem ex_sw3 {es : List Expr} {k : Nat} {tp pos : Pos} {value : Expr} {x₁ x₂ x₃ : Str} {Q : Flow → Vm → Wd → Led → Prop} (hh : A.handled = none) (hs : swapsWithSole [.Tuple es k tp] value pos.line env = pure false) (hw : swappedStores [.Tuple es k tp] value env = pure (some [x₁, x₂, x₃]))
    (h : Tr prog w A env g m W X (eval value env) (KSw3 prog w A env g x₁ x₂ x₃ Q)) :
    Tr prog w A env g m W X (exec (.Assign [.Tuple es k tp] value pos) env) Q :=
  ex_sw hh hs hw (h.mono fun v m W X ⟨t, v₁, v₂, v₃, e, ht, h⟩ => ⟨t, _, e, ht, rfl, ai_cons (bn (h.mono fun _ _ _ _ h => ai_cons (bn (h.mono fun _ _ _ _ h => ai_cons (bn (h.mono fun _ _ _ _ h => ai_nil h))))))⟩)

/-! calls of built-ins -/
theorem ca_min {l : Addr} {vs : List Value} {ns : List Int} (hh : A.handled = none) (hl : LstX W X l vs) (hi : IntsAre vs ns) (hne : 0 < ns.length) (h : ∀ M t, M ∈ ns → (∀ a ∈ ns, M ≤ a) → Q (.int M t) m W X) : Tr prog w A env g m W X (call (.builtin "min") [.ref l]) Q := .mk fun s C => by
  refine und fun Gq hGq => ?_
  obtain ⟨ml, news, F, N, back⟩ := C.frn
  refine hGq ?_
  clear hGq Gq
  exact min_list_N hh F N (C.adv.st.lst hl) hi hne fun h' M t tk F' N' a b => ⟨_, _, _, back h' tk F' N', h M t a b⟩
theorem ca_max {l : Addr} {vs : List Value} {ns : List Int} (hh : A.handled = none) (hl : LstX W X l vs) (hi : IntsAre vs ns) (hne : 0 < ns.length) (h : ∀ M t, M ∈ ns → (∀ a ∈ ns, a ≤ M) → Q (.int M t) m W X) : Tr prog w A env g m W X (call (.builtin "max") [.ref l]) Q := .mk fun s C => by
  refine und fun Gq hGq => ?_
  obtain ⟨ml, news, F, N, back⟩ := C.frn
  refine hGq ?_
  clear hGq Gq
  exact max_list_N hh F N (C.adv.st.lst hl) hi hne fun h' M t tk F' N' a b => ⟨_, _, _, back h' tk F' N', h M t a b⟩
theorem ca_sum {l : Addr} {vs : List Value} {ns : List Int} (hh : A.handled = none) (hl : LstX W X l vs) (hi : IntsAre vs ns) (h : ∀ t, Q (.int ns.sum t) m W X) : Tr prog w A env g m W X (call (.builtin "sum") [.ref l]) Q := .mk fun s C => by
  obtain ⟨xs, hx⟩ := hi.allInts.items
  have hl' : s.heap.IsList l (intItems xs) := hx ▸ C.adv.st.lst hl
  refine sum_intListG hh hl' fun h' tk t' hk => ?_
  have e1 : ns = xs.toList.map (·.1) := by
    rw [← nums_intItems, ← hx]
    exact (show numsOf vs.toArray.toList = ns from hi.numsOf).symm
  have e2 : preSum (numAt xs) xs.size = ns.sum := by
    rw [preSum_eq, List.take_of_length_le (by simp), e1]
  rw [e2]
  exact ⟨_, _, _, C.keep hk tk, h t'⟩
theorem ca_int {n : Int} {t : Tok} (h : Q (.int n t) m W X) : Tr prog w A env g m W X (call (.type "int") [.int n t]) Q := .mk fun s C => call_int_int ⟨_, _, _, C, h⟩
theorem ca_intb {b : Bool} (h : ∀ t, Q (.int (if b then 1 else 0) t) m W X) : Tr prog w A env g m W X (call (.type "int") [.bool b]) Q := .mk fun s C => call_int_bool ⟨_, _, _, C.toks _, h _⟩
theorem ca_llist {l : Addr} {vs : List Value} (hl : LstX W X l vs) (hz : vs.length ≤ sizeLine) (h : ∀ r W', LstW W' r vs → Le W W' → Q (.ref r) m W' X) : Tr prog w A env g m W X (call (.type "list") [.ref l]) Q := .mk fun s C => by
  refine und fun Gq hGq => ?_
  obtain ⟨o, ho, hc, n, hd⟩ := C.adv.st.lst hl
  refine hGq ?_
  clear hGq Gq
  refine call_list_seq l (.inl rfl) ho hc hd (fun h' c' hk ho' => ?_) (by rw [List.size_toArray]; exact hz)
  have B := C.born (C.keep hk s.toks) fresh_size ho'
  exact ⟨_, _, _, B.1, h _ _ ⟨_, put_same, rfl, c', rfl⟩ (put_le B.2)⟩
theorem ca_len0 {l : Addr} {vs : List Value} (hl : LstX W X l vs) (hz : vs.length ≤ sizeLine) (h : ∀ t, Q (.int vs.length t) m W X) : Tr prog w A env g m W X (call (.builtin "len") [.ref l]) Q := ca_len hl hz h

/-! in, == -/
theorem co_in {l : Addr} {vs : List Value} {ns : List Int} {k : Int} {t : Tok} (hl : LstX W X l vs) (hi : IntsAre vs ns) (h : Q (.bool (decide (k ∈ ns))) m W X) : Tr prog w A env g m W X (compareOp .In (.int k t) (.ref l)) Q := .mk fun s C => by
  refine in_list_ints (C.adv.st.lst hl) hi ⟨_, _, _, C, ?_⟩
  have : ns.any (· == k) = decide (k ∈ ns) := by
    rw [Bool.eq_iff_iff, List.any_eq_true, decide_eq_true_iff]
    exact ⟨fun ⟨x, hx, e⟩ => by rw [← eq_of_beq e]; exact hx, fun hx => ⟨k, hx, beq_self_eq_true _⟩⟩
  rw [this]; exact h
theorem co_nin {l : Addr} {vs : List Value} {ns : List Int} {k : Int} {t : Tok} (hl : LstX W X l vs) (hi : IntsAre vs ns) (h : Q (.bool (decide (¬ k ∈ ns))) m W X) : Tr prog w A env g m W X (compareOp .NotIn (.int k t) (.ref l)) Q := .mk fun s C => by
  refine notin_list_ints (C.adv.st.lst hl) hi ⟨_, _, _, C, ?_⟩
  have : (!ns.any (· == k)) = decide (¬ k ∈ ns) := by
    rw [Bool.eq_iff_iff, Bool.not_eq_true', decide_eq_true_iff, ← Bool.not_eq_true, List.any_eq_true]
    exact not_congr ⟨fun ⟨x, hx, e⟩ => by rw [← eq_of_beq e]; exact hx, fun hx => ⟨k, hx, beq_self_eq_true _⟩⟩
  rw [this]; exact h
theorem co_eqi {a b : Addr} {vs us : List Value} {ns ms : List Int} (ha : LstX W X a vs) (hi : IntsAre vs ns) (hb : LstX W X b us) (hj : IntsAre us ms) (hu : A.units + 64 < cLine) (h : Q (.bool (decide (ns = ms))) m W X) : Tr prog w A env g m W X (compareOp .Eq (.ref a) (.ref b)) Q :=
  .mk fun s C => eq_intsK (C.adv.st.lst ha) hi (C.adv.st.lst hb) hj hu ⟨_, _, _, C, h⟩
theorem co_nei {a b : Addr} {vs us : List Value} {ns ms : List Int} (ha : LstX W X a vs) (hi : IntsAre vs ns) (hb : LstX W X b us) (hj : IntsAre us ms) (hu : A.units + 64 < cLine) (h : Q (.bool (decide (¬ ns = ms))) m W X) : Tr prog w A env g m W X (compareOp .NotEq (.ref a) (.ref b)) Q :=
  .mk fun s C => ne_intsK (C.adv.st.lst ha) hi (C.adv.st.lst hb) hj hu ⟨_, _, _, C, by
    have : (!decide (ns = ms)) = decide (¬ ns = ms) := by simp
    rw [this]; exact h⟩
theorem Room.eq {A : Around} {n : Nat} (r : Room A (n + 1)) : A.units + 64 < cLine := by have := r.un; omega
end

/-- a row of the law: code, cluster, glyph, mark -/
noncomputable abbrev Rw := Int × Int × Int × Int
inductive Tup4 (W : Wd) (v : Value) (r : Rw) : Prop
  | mk (a) (t₁) (t₂) (t₃) (t₄) (h1 : v = .ref a) (h2 : W a = some { cls := .type "tuple", data := .seq ([.int r.1 t₁, .int r.2.1 t₂, .int r.2.2.1 t₃, .int r.2.2.2 t₄] : List Value).toArray }) : Tup4 W v r
theorem Tup4.up {W W' : Wd} {v : Value} {r : Rw} (h : Tup4 W v r) (le : Le W W') : Tup4 W' v r := let ⟨a, t₁, t₂, t₃, t₄, e, h⟩ := h; ⟨a, t₁, t₂, t₃, t₄, e, le _ _ h⟩
noncomputable def rwD (r : Rw) : PyData := .tuple [.int r.1, .int r.2.1, .int r.2.2.1, .int r.2.2.2]
theorem reads_rows {W : Wd} {X : Led} {h : Heap} (S : St W X h) : ∀ {vs : List Value} {rs : List Rw}, All2 (Tup4 W) vs rs → ReadsAll h vs (rs.map rwD) []
  | _, _, .nil => .nil
  | _, _, .cons (b := b) ⟨a, t₁, t₂, t₃, t₄, e, hw⟩ r => by
    subst e
    have r4 : ReadsAll h [.int b.1 t₁, .int b.2.1 t₂, .int b.2.2.1 t₃, .int b.2.2.2 t₄] [.int b.1, .int b.2.1, .int b.2.2.1, .int b.2.2.2] _ := .cons (.int _ t₁) (.cons (.int _ t₂) (.cons (.int _ t₃) (.cons (.int _ t₄) .nil)))
    have := ReadsAll.cons (Reads.tuple (S.w _ _ hw) rfl rfl r4) (reads_rows S r)
    simpa [rwD] using this
theorem lay_rows : ∀ rs : List Rw, PyData.canLayAll0 (rs.map rwD) = true ∧ PyData.depthAll (rs.map rwD) ≤ 4
  | [] => by simp [PyData.canLayAll0, PyData.depthAll]
  | r :: rs => by
    have := lay_rows rs
    constructor
    · simp [PyData.canLayAll0, PyData.canLay0, rwD, this.1]
    · simp only [List.map_cons, PyData.depthAll, rwD, PyData.depth]; have := this.2; omega
theorem shaped_rows (rs : List Rw) : PySem.SeqAt.shaped (.list (rs.map rwD)) = true := by
  have := lay_rows rs
  show (PyData.canLay0 (.list (rs.map rwD)) && decide (PyData.depth (.list (rs.map rwD)) ≤ 64)) = true
  rw [Bool.and_eq_true]
  refine ⟨by simp only [PyData.canLay0]; exact this.1, decide_eq_true ?_⟩
  simp only [PyData.depth]; have := this.2; omega
theorem eqv_rows : ∀ rs ts : List Rw, PyData.eqvAll (rs.map rwD) (ts.map rwD) = decide (rs = ts)
  | [], [] => by simp [PyData.eqvAll]
  | [], _ :: _ => by simp [PyData.eqvAll]
  | _ :: _, [] => by simp [PyData.eqvAll]
  | (a, b, c, d) :: r, (a', b', c', d') :: q => by
    simp only [List.map_cons, PyData.eqvAll, rwD, PyData.eqv, eqv_rows r q]
    by_cases h1 : a = a' <;> by_cases h2 : b = b' <;> by_cases h3 : c = c' <;> by_cases h4 : d = d' <;> by_cases h5 : r = q <;> simp [h1, h2, h3, h4, h5]
section
variable {prog : Program} {w : World} {A : Around} {env : Env} {g : Org} {m : Vm} {W : Wd} {X : Led} {Q : Value → Vm → Wd → Led → Prop}
theorem co_eqr {a b : Addr} {vs us : List Value} {rs ts : List Rw} (ha : LstX W X a vs) (hi : All2 (Tup4 W) vs rs) (hb : LstX W X b us) (hj : All2 (Tup4 W) us ts) (hu : A.units + 64 < cLine) (h : Q (.bool (decide (rs = ts))) m W X) : Tr prog w A env g m W X (compareOp .Eq (.ref a) (.ref b)) Q := .mk fun s C => by
  refine und fun Gq hGq => ?_
  obtain ⟨o, e, c, n, d⟩ := C.adv.st.lst ha
  obtain ⟨o', e', c', n', d'⟩ := C.adv.st.lst hb
  refine hGq ?_
  clear hGq Gq
  refine eq_dataH (Reads.list e c d (by simpa using reads_rows C.adv.st hi)) (Reads.list e' c' d' (by simpa using reads_rows C.adv.st hj)) (shaped_rows rs) (shaped_rows ts) hu ⟨_, _, _, C, ?_⟩
  simp only [PyData.eqv]; rw [eqv_rows]; exact h
theorem co_ner {a b : Addr} {vs us : List Value} {rs ts : List Rw} (ha : LstX W X a vs) (hi : All2 (Tup4 W) vs rs) (hb : LstX W X b us) (hj : All2 (Tup4 W) us ts) (hu : A.units + 64 < cLine) (h : Q (.bool (decide (¬ rs = ts))) m W X) : Tr prog w A env g m W X (compareOp .NotEq (.ref a) (.ref b)) Q := .mk fun s C => by
  refine und fun Gq hGq => ?_
  obtain ⟨o, e, c, n, d⟩ := C.adv.st.lst ha
  obtain ⟨o', e', c', n', d'⟩ := C.adv.st.lst hb
  refine hGq ?_
  clear hGq Gq
  refine ne_dataH (Reads.list e c d (by simpa using reads_rows C.adv.st hi)) (Reads.list e' c' d' (by simpa using reads_rows C.adv.st hj)) (shaped_rows rs) (shaped_rows ts) hu ⟨_, _, _, C, ?_⟩
  simp only [PyData.eqv]; rw [eqv_rows]
  have : (!decide (rs = ts)) = decide (¬ rs = ts) := by simp
  rw [this]; exact h
/-- list * int -/
theorem bo_mull {l : Addr} {n : Nat} {vs : List Value} {x : Int} {u : Tok} (hl : W l = some { cls := .type "list", data := .seq vs.toArray n }) (h0 : 0 ≤ x) (h1 : x ≤ 1) (hv : vs ≠ []) (hz : vs.length ≤ 1000)
    (h : ∀ r W', W' r = some { cls := .type "list", data := .seq (if x = 0 then [] else vs).toArray } → Le W W' → Q (.ref r) m W' X) : Tr prog w A env g m W X (binaryOp .Mult (.ref l) (.int x u)) Q := .mk fun s C => by
  refine und fun Gq hGq => ?_
  obtain ⟨ml, news, F, N, back⟩ := C.frn
  refine hGq ?_
  clear hGq Gq
  refine PyProof.Rows.mul_list F N (C.adv.st.w _ _ hl) (by omega) (by omega) ?_ (fun h' F' N' => ?_)
  · have : x.toNat ≤ 1 := by omega
    have := Nat.mul_le_mul hz this
    simp at this ⊢; omega
  have C' := back h' s.toks F' fun p hp => N' p (List.mem_cons_of_mem _ hp)
  have B := C.born C' fresh_size (N'.get List.mem_cons_self)
  refine ⟨_, _, _, B.1, h _ _ ?_ (put_le B.2)⟩
  rw [put_same]
  have e : ¬ vs.toArray.isEmpty = true := by simpa using hv
  rw [if_neg e]
  by_cases q : x = 0
  · subst q; rfl
  · have : x = 1 := by omega
    subst this
    rw [if_neg q]; simp
/-- reversed(list): its iterator is the first of X -/
theorem ca_rev {l : Addr} {vs : List Value} (hl : LstX W X l vs) (h : ∀ r, W r = none → r ∉ adr X → Q (.ref r) m W ((r, revObj l ((vs.length : Int) - 1)) :: X)) : Tr prog w A env g m W X (call (.type "reversed") [.ref l]) Q := .mk fun s C => by
  have P := C.push (revObj l ((vs.length : Int) - 1))
  have nd := P.adv.st.nd
  rw [adr_cons] at nd
  refine call_reversed_list (C.adv.st.lst hl) ⟨_, _, _, ?_, h _ (P.adv.st.xw _ _ List.mem_cons_self) (List.nodup_cons.mp nd).1⟩
  simpa using P
theorem itr_rev (hh : A.handled = none) {l r : Addr} {vs : List Value} {X' : Led} (hl : LstW W l vs) : Itr prog w A W ((r, revObj l ((vs.length : Int) - 1)) :: X') (.ref r) X' vs.length fun i v => vs[vs.length - 1 - i]? = some v where
  sub := fun _ h => List.mem_cons_of_mem _ h
  nd := fun h => by rw [adr_cons] at h; exact (List.nodup_cons.mp h).2
  run := fun s S => by
    have hL := S.lst (hl.x (X := (r, revObj l ((vs.length : Int) - 1)) :: X'))
    have hr := S.x _ _ (List.mem_cons_self (a := (r, revObj l ((vs.length : Int) - 1))) (l := X'))
    have hw := S.xw _ _ (List.mem_cons_self (a := (r, revObj l ((vs.length : Int) - 1))) (l := X'))
    have nd := S.nd
    rw [adr_cons] at nd
    have hne : l ≠ r := fun q => by obtain ⟨o, e, _⟩ := hl; rw [q, hw] at e; cases e
    have W' := Walks.listRev (prog := prog) (w := w) hh r l hne vs.toArray
    simp only [List.getElem?_toArray, List.size_toArray] at W'
    have hrev : s.heap.IsRevIter r l ((vs.length : Int) - 1) := ⟨_, hr, rfl, rfl⟩
    refine wpAny_pyIter_revIter hrev ⟨_, _, _, _, s.heap, s.toks, rfl, rfl, W', ⟨Nat.zero_le _, by simpa using hrev, hL⟩, fun _ _ e => e, fun b hb => ?_, fun b hb => ?_, fun i h hs b hb => ?_, fun i s' tg v Q hs hq => ?_⟩
    · rcases List.mem_cons.mp hb with rfl | hb
      · exact .inr ⟨hw, (List.nodup_cons.mp nd).1, .inr List.mem_cons_self⟩
      · rw [List.mem_singleton.mp hb]
        obtain ⟨o, e, _⟩ := hl
        exact .inl ⟨o, e⟩
    · rw [List.mem_singleton.mp hb]; exact hw
    · rcases List.mem_cons.mp hb with rfl | hb
      · obtain ⟨o, e, _⟩ := hs.2.1; exact ⟨o, e⟩
      · rw [List.mem_singleton.mp hb]
        obtain ⟨o, e, _⟩ := hs.2.2; exact ⟨o, e⟩
    · obtain ⟨o, e, c, d⟩ := hs.2.1
      exact ltg e c d (by decide) hq
end
end
section -- Lu
theorem ite_t {c : Bool} {a b : Prop} (h : c = true) (k : a) : if c = true then a else b := by rw [if_pos h]; exact k
theorem ite_f {c : Bool} {a b : Prop} (h : c = false) (k : b) : if c = true then a else b := by rw [if_neg (by rw [h]; exact Bool.false_ne_true)]; exact k

/-- a dict with int keys -/
inductive DctX (prog : Program) (w : World) (W : Wd) (X : Led) (d : Addr) (kvs : List (Int × Value)) : Prop
  | mk (h1 : (d == sysModules) = false) (o) (h2 : Has W X d o) (h3 : o.IsDictOf (intKind prog w) kvs) : DctX prog w W X d kvs
inductive DctW (prog : Program) (w : World) (W : Wd) (d : Addr) (kvs : List (Int × Value)) : Prop
  | mk (h1 : (d == sysModules) = false) (o) (h2 : W d = some o) (h3 : o.IsDictOf (intKind prog w) kvs) : DctW prog w W d kvs
/-- a key of two ints, in the world -/
inductive KeyW (prog : Program) (w : World) (W : Wd) (ks : List Int) (a : Addr) : Prop
  | mk (o) (items) (n) (h1 : W a = some o) (h2 : o.cls = .type "tuple") (h3 : o.data = .seq items n) (h4 : ItemsAre (intKind prog w) ks items.toList) : KeyW prog w W ks a
inductive TctX (prog : Program) (w : World) (W : Wd) (X : Led) (d : Addr) (xs : List (List Int × Addr × Value)) : Prop
  | mk (h1 : (d == sysModules) = false) (o) (es) (ep) (h2 : Has W X d o) (h3 : o.ExactDict) (h4 : o.data = .dict es ep) (h5 : es.toList = xs.map (entryOfKey (tupleKind (intKind prog w)))) (h6 : (∀ x ∈ xs, KeyW prog w W x.1 x.2.1)) (h7 : (xs.map (·.1)).Nodup) : TctX prog w W X d xs
noncomputable def emptyD : Obj := { cls := .type "dict", data := .dict #[] }
theorem emptyD_is (prog : Program) (w : World) : emptyD.IsDictOf (intKind prog w) [] := ⟨#[], 0, ⟨rfl, rfl, rfl⟩, rfl, fun _ he => by simp at he, .nil, List.nodup_nil⟩

section
variable {prog : Program} {w : World} {A : Around} {env : Env} {g : Org} {m : Vm} {W : Wd} {X : Led} {s : Shared} {d : Addr} {kvs : List (Int × Value)} {k : Int} {t : Tok}
theorem DctW.x (h : DctW prog w W d kvs) : DctX prog w W X d kvs := let ⟨a, o, e, r⟩ := h; ⟨a, o, .inl e, r⟩
theorem DctW.up {W' : Wd} (h : DctW prog w W d kvs) (le : Le W W') : DctW prog w W' d kvs := let ⟨a, o, e, r⟩ := h; ⟨a, o, le _ _ e, r⟩
theorem St.dct (S : St W X s.heap) (h : DctX prog w W X d kvs) : s.heap.DictOf (intKind prog w) d kvs := let ⟨_, o, e, r⟩ := h; Heap.dictOf_iff.mpr ⟨o, S.has e, r⟩
theorem KeyW.up {W' : Wd} {ks : List Int} {a : Addr} (h : KeyW prog w W ks a) (le : Le W W') : KeyW prog w W' ks a := let ⟨o, i, n, e, h1, h2, h3⟩ := h; ⟨o, i, n, le _ _ e, h1, h2, h3⟩
theorem KeyW.at (S : St W X s.heap) {ks : List Int} {a : Addr} (h : KeyW prog w W ks a) : IsTupleKey (intKind prog w) s.heap ks a := let ⟨o, i, n, e, h1, h2, h3⟩ := h; ⟨o, i, n, S.w _ _ e, h1, h2, h3⟩
theorem St.tct (S : St W X s.heap) {xs : List (List Int × Addr × Value)} (h : TctX prog w W X d xs) : s.heap.DictOfH (tupleKind (intKind prog w)) d xs :=
  let ⟨_, o, es, ep, e, h1, h2, h3, h4, h5⟩ := h; ⟨o, es, ep, S.has e, h1, h2, h3, fun x hx => (h4 x hx).at S, h5⟩

theorem not_sys {K : Frag} (G : GW w K W) (S : St W X s.heap) (hK : ∃ o, K.lookup 2 = some o) : (s.heap.objs.size == sysModules) = false := by
  obtain ⟨o, e⟩ := hK
  have := Heap.lt_size (S.w _ _ (G.at e))
  rw [beq_eq_false_iff_ne]
  intro q
  rw [q] at this
  exact absurd this (by decide)

section
variable {Q : Value → Vm → Wd → Led → Prop}
theorem ev_dict0 {K : Frag} {pos : Pos} (G : GW w K W) (hK : ∃ o, K.lookup 2 = some o) (h : ∀ a, (a == sysModules) = false → W a = none → a ∉ adr X → Q (.ref a) m W ((a, emptyD) :: X)) : Tr prog w A env g m W X (eval (.Dict [] [] pos) env) Q := .mk fun s C => by
  have P := C.push emptyD
  have nd := P.adv.st.nd
  rw [adr_cons] at nd
  exact wpAny_Dict_empty ⟨_, _, _, P, h _ (not_sys G C.adv.st hK) (P.adv.st.xw _ _ List.mem_cons_self) (List.nodup_cons.mp nd).1⟩
theorem si_dct {o : Obj} {v : Value} {Q : Unit → Vm → Wd → Led → Prop} (hd : (d == sysModules) = false) (ho : o.IsDictOf (intKind prog w) kvs) (hz : kvs.length ≤ 1000)
    (h : ∀ o', o'.IsDictOf (intKind prog w) (stored kvs k v) → Q () m W ((d, o') :: X)) : Tr prog w A env g m W ((d, o) :: X) (setItem (.ref d) (.int k t) v) Q := .mk fun s C => by
  refine wpAny_setItem_pairs (knd := intKind prog w) (intKind_is prog w k t) (C.adv.st.dct ⟨hd, o, .inr List.mem_cons_self, ho⟩) (fun h' hm hs => ?_) (by rw [sizeLine_eq]; omega)
  obtain ⟨o', e, hd'⟩ := Heap.dictOf_iff.mp hm
  exact ⟨_, _, _, C.set hs e _, h o' hd'⟩
theorem su_dct {value slice : Expr} {v : Value} (hd : DctX prog w W X d kvs) (hv : valueAt kvs k = some v) (hs : subscripted slice false (.ref d) (.int k t) = operate [.ref d, .int k t] (getItem (.ref d) (.int k t))) (h : Q v m W X) :
    Tr prog w A env g m W X (subscriptTail value slice (.ref d) (.int k t)) Q := .mk fun s C =>
  tail_any (C.adv.st.dct hd).typeIs slot_dict_getitem.lookup (wpAny_getItem_of (intKind_is prog w k t) (C.adv.st.dct hd).mapOf hv ⟨_, _, _, C.toks _, h⟩) hs
theorem co_ind (hd : DctX prog w W X d kvs) (h : Q (.bool (valueAt kvs k).isSome) m W X) : Tr prog w A env g m W X (compareOp .In (.int k t) (.ref d)) Q := .mk fun s C =>
  wpAny_in_of (intKind_is prog w k t) hd.1 (C.adv.st.dct hd).mapOf ⟨_, _, _, C.toks _, h⟩
theorem co_nind (hd : DctX prog w W X d kvs) (h : Q (.bool (!(valueAt kvs k).isSome)) m W X) : Tr prog w A env g m W X (compareOp .NotIn (.int k t) (.ref d)) Q := .mk fun s C =>
  wpAny_notIn_of (intKind_is prog w k t) hd.1 (C.adv.st.dct hd).mapOf ⟨_, _, _, C.toks _, h⟩
theorem gm_dget {pl : Sem Bool} {Q : Value × List Value → Vm → Wd → Led → Prop} (hd : DctX prog w W X d kvs) (h : Q (.builtin "dict.get", [.ref d]) m W X) : Tr prog w A env g m W X (getMethod (.ref d) "get" pl) Q := .mk fun s C =>
  getMethod_builtin (C.adv.st.dct hd).typeIs PySem.F.plainAttrs_dict PySem.F.slot_dict_get PySem.F.type_dict_get (C.adv.st.dct hd).mapOf.noDict ⟨_, _, _, C, h⟩
theorem ca_dget {dflt : Value} (hd : DctX prog w W X d kvs) (h : Q ((valueAt kvs k).getD dflt) m W X) : Tr prog w A env g m W X (call (.builtin "dict.get") [.ref d, .int k t, dflt]) Q := .mk fun s C =>
  call_meetsIn PySem.F.slot_dict_get (C.adv.st.dct hd).typeIs PySem.F.entry_dict_get (PySem.F.args_dict_get_3 _ _ _) (meets_dict_get_default (intKind prog w) d (intKind_is prog w k t) hd.1 dflt) ⟨_, (C.adv.st.dct hd).mapOf, ⟨_, _, _, C.toks _, h⟩⟩

/-! keys of two ints -/
theorem gm_tget {xs : List (List Int × Addr × Value)} {pl : Sem Bool} {Q : Value × List Value → Vm → Wd → Led → Prop} (hd : TctX prog w W X d xs) (h : Q (.builtin "dict.get", [.ref d]) m W X) : Tr prog w A env g m W X (getMethod (.ref d) "get" pl) Q := .mk fun s C =>
  getMethod_builtin (C.adv.st.tct hd).typeIs PySem.F.plainAttrs_dict PySem.F.slot_dict_get PySem.F.type_dict_get (dictOfH_noDict (C.adv.st.tct hd)) ⟨_, _, _, C, h⟩
theorem ca_tget {xs : List (List Int × Addr × Value)} {a : Addr} {ks : List Int} {dflt : Value} (hu : A.units + 1 < cLine) (hd : TctX prog w W X d xs) (hk : KeyW prog w W ks a) (h : Q (((atKey xs ks).map (·.2)).getD dflt) m W X) :
    Tr prog w A env g m W X (call (.builtin "dict.get") [.ref d, .ref a, dflt]) Q := .mk fun s C =>
  call_meetsIn PySem.F.slot_dict_get (C.adv.st.tct hd).typeIs PySem.F.entry_dict_get (PySem.F.args_dict_get_3 _ _ _) (meetsH_dict_get_default (tupleKind (intKind prog w)) d a hd.1 dflt) ⟨tupleKind_room_in1 hu, ks, xs, hk.at C.adv.st, C.adv.st.tct hd, ⟨_, _, _, C.toks _, h⟩⟩
theorem TctX.nil (hd : (d == sysModules) = false) : TctX prog w W ((d, emptyD) :: X) d [] := ⟨hd, emptyD, #[], 0, .inr List.mem_cons_self, ⟨rfl, rfl, rfl⟩, rfl, rfl, fun _ h => by simp at h, List.nodup_nil⟩
theorem si_tct {o : Obj} {xs : List (List Int × Addr × Value)} {a : Addr} {ks : List Int} {v : Value} {Q : Unit → Vm → Wd → Led → Prop} (hu : A.units + 1 < cLine) (hd : TctX prog w W ((d, o) :: X) d xs) (hk : KeyW prog w W ks a) (hz : xs.length ≤ 1000)
    (h : ∀ o', TctX prog w W ((d, o') :: X) d (storedH xs ks a v) → Q () m W ((d, o') :: X)) : Tr prog w A env g m W ((d, o) :: X) (setItem (.ref d) (.ref a) v) Q := .mk fun s C => by
  refine wpAny_setItem_heap (tupleKind_room_in1 hu) (hk.at C.adv.st) (C.adv.st.tct hd) (fun h' hm hs => ?_) (by rw [sizeLine_eq]; omega)
  refine und fun Gq hGq => ?_
  obtain ⟨o', es, ep, e, h1, h2, h3, h4, h5⟩ := hm
  obtain ⟨hd1, _, _, _, _, _, _, _, hkw, _⟩ := hd
  refine hGq ?_
  clear hGq Gq
  refine ⟨_, _, _, C.set hs e _, h o' ⟨hd1, o', es, ep, .inr List.mem_cons_self, h1, h2, h3, fun x hx => ?_, h5⟩⟩
  rcases mem_storedH hx with ⟨y, hy, e1, e2⟩ | ⟨e1, e2⟩
  · rw [e1, e2]; exact hkw y hy
  · rw [e1, e2]; exact hk
end

/-- over the keys of a dict -/
theorem itr_dct (hh : A.handled = none) (hd : DctW prog w W d kvs) : Itr prog w A W X (.ref d) X kvs.length fun i v => ∃ k x, kvs[i]? = some (k, x) ∧ ∃ t, v = .int k t where
  sub := fun _ h => h
  nd := fun h => h
  run := fun s S => by
    refine und fun Gq hGq => ?_
    obtain ⟨ep, hA⟩ := (S.dct (hd.x (X := X))).dictAt
    obtain ⟨_, o, ho, _⟩ := id hd
    refine hGq ?_
    clear hGq Gq
    have hne : d ≠ s.heap.objs.size := Nat.ne_of_lt (Heap.lt_size (S.w _ _ ho))
    have fresh : s.heap.get? s.heap.objs.size = none := fresh_size
    have fW : W s.heap.objs.size = none := by
      cases q : W s.heap.objs.size with
      | none => rfl
      | some o => rw [S.w _ _ q] at fresh; cases fresh
    have W' := Walks.dictKeys (prog := prog) (w := w) (A := A) (knd := intKind prog w) hh s.heap.objs.size d hne kvs ep
    have kt : ∀ k v, (intKind prog w).is k v = true → ∃ t, v = Value.int k t := fun k v e => by
      have e : Value.isInt k v = true := e
      match v, e with
      | .int i t, e => exact ⟨t, by rw [show i = k from by simpa [Value.isInt] using e]⟩
    have W2 : Walks prog w A s.heap.objs.size [s.heap.objs.size, d] [s.heap.objs.size] kvs.length (fun i v => ∃ k x, kvs[i]? = some (k, x) ∧ ∃ t, v = Value.int k t) (fun i h => h.IsKeyIter s.heap.objs.size d i kvs.length ep ∧ h.DictAt (intKind prog w) d kvs ep) :=
      { sub := W'.sub, frame := W'.frame, item := fun i s Q E hi st hQ => W'.item i s Q E hi st fun v h' tk ⟨k, x, e, q⟩ => hQ v h' tk ⟨k, x, e, kt k v q⟩, done := W'.done, self := W'.self }
    refine wpAny_pyIter_dict hd.1 hA ⟨_, _, _, _, _, _, rfl, rfl, W2, ⟨⟨_, Heap.get?_push_size _ rfl, rfl, rfl⟩, hA.push _⟩, fun b o e => Heap.get?_push_of_some _ e, fun b hb => ?_, fun b hb => ?_, fun i h hs b hb => ?_, fun i s' tg v Q hs hq => ?_⟩
    · rcases List.mem_cons.mp hb with rfl | hb
      · refine .inr ⟨fW, fun hm => ?_, .inl fresh⟩
        obtain ⟨o, hm⟩ := mem_adr.mp hm
        rw [S.x _ _ hm] at fresh; cases fresh
      · rw [List.mem_singleton.mp hb]
        exact .inl ⟨o, ho⟩
    · rw [List.mem_singleton.mp hb]; exact fW
    · rcases List.mem_cons.mp hb with rfl | hb
      · obtain ⟨o, e, _⟩ := hs.1; exact ⟨o, e⟩
      · rw [List.mem_singleton.mp hb]
        obtain ⟨o, es, e, _⟩ := hs.2; exact ⟨o, e⟩
    · obtain ⟨o, e, c, dd⟩ := hs.1
      exact ltg e c dd (by decide) hq
end

/-! calls, parts of X -/
section
variable {prog : Program} {w : World} {A : Around} {env : Env} {g : Org} {m : Vm} {W : Wd} {X : Led} {Q : Value → Vm → Wd → Led → Prop}
theorem Tr.callPG {f : Value} {args : List Value} {P : Value → Wd → Led → Prop} {Xp Xr : Led} (hp : X.Perm (Xp ++ Xr)) (h : Cl prog w A W Xp f args P)
    (k : ∀ (Gq : Value → Led → Prop) W' v Xp', Le W W' → (∀ v Xp', Imp (Q v m W' (Xp' ++ Xr)) (Gq v Xp')) → P v W' Xp' → Gq v Xp') : Tr prog w A env g m W X (PySem.call f args) Q := Tr.perm hp (Tr.callG h k)
theorem Tr.call1G {f : Value} {args : List Value} {P : Value → Wd → Led → Prop} {p : Addr × Obj} {Xr : Led} (h : Cl prog w A W [p] f args P)
    (k : ∀ (Gq : Value → Led → Prop) W' v Xp', Le W W' → (∀ v Xp', Imp (Q v m W' (Xp' ++ Xr)) (Gq v Xp')) → P v W' Xp' → Gq v Xp') : Tr prog w A env g m W (p :: Xr) (PySem.call f args) Q := Tr.callG h k
/-- a call that leaves X -/
theorem Tr.call0G {f : Value} {args : List Value} {P : Value → Wd → Led → Prop} (h : Cl prog w A W X f args fun v W' X' => P v W' X' ∧ X' = X)
    (k : ∀ (Gq : Value → Prop) W' v, Le W W' → (∀ v, Imp (Q v m W' X) (Gq v)) → P v W' X → Gq v) : Tr prog w A env g m W X (PySem.call f args) Q := Tr.callA h fun v W' X' le p => by obtain ⟨p, rfl⟩ := p; exact k _ W' v le (fun _ h => h) p
theorem Tr.call0 {f : Value} {args : List Value} {P : Value → Wd → Led → Prop} (h : Cl prog w A W X f args fun v W' X' => P v W' X' ∧ X' = X)
    (k : ∀ v W', Le W W' → P v W' X → Q v m W' X) : Tr prog w A env g m W X (PySem.call f args) Q := Tr.callA h fun v W' X' le p => by obtain ⟨p, rfl⟩ := p; exact k v W' le p

theorem at_setP {K : Frag} {x C dx : Addr} {od : Obj} {f : Vm} {k k' : Nat} {name : Str} {v : Value} {X1 X2 : Led} {Q : Unit → Vm → Wd → Led → Prop} (G : GW w K W) (hx : Has W ((dx, od) :: (X1 ++ X2)) x (instObj C dx)) (ha : AtO od f k)
    (hs : findIn K (.ref C) "__setattr__" = some (some (.builtin "object.__setattr__"))) (hp : plainOver K C = true) (ht : takerIn K C name = some none) (hh : hasDictIn K C = true) (hk : k' ≤ 1000) (hkk : ((f name).isSome = true ∧ k' = k) ∨ k' = k + 1)
    (h : ∀ od', AtO od' (upd f name v) k' → Q () m W (X1 ++ (dx, od') :: X2)) : Tr prog w A env g m W (X1 ++ (dx, od) :: X2) (setAttr (.ref x) name v) Q :=
  Tr.front (Tr.post (at_set G hx ha hs hp ht hh hk hkk fun od' a => ⟨_, List.perm_middle.symm, h od' a⟩))
end
end
section -- Lv
theorem isSome_of {f : Vm} {x : Str} {v : Value} (h : f x = some v) : (f x).isSome = true := by rw [h]; rfl
/-! the program's things -/
structure Inf where
  x : Addr
  d : Addr
  o : Obj
structure InfA (f : Vm) (r : Rw) : Prop where
  code : ∃ t, f "code" = some (.int r.1 t)
  clus : ∃ t, f "cluster" = some (.int r.2.1 t)
  glyph : ∃ t, f "glyph" = some (.int r.2.2.1 t)
  mask : ∃ t, f "mask" = some (.int r.2.2.2 t)
  uns : ∃ b, f "is_unsafe" = some (.bool b)
  li : ∃ i t, f "lig_id" = some (.int i t)
  lp : ∃ i t, f "lig_part" = some (.int i t)
  lc : ∃ i t, f "lig_count" = some (.int i t)
  kd : ∃ i t, f "kind" = some (.str i t)
  xa : ∃ i t, f "x_advance" = some (.int i t)
  ya : ∃ i t, f "y_advance" = some (.int i t)
  xo : ∃ i t, f "x_offset" = some (.int i t)
  yo : ∃ i t, f "y_offset" = some (.int i t)
  pa : ∃ i t, f "parent" = some (.int i t)
  bo : ∃ i t, f "bond" = some (.str i t)
  cop : f "copied" = none
inductive InfO (o : Obj) (r : Rw) : Prop
  | mk (f) (h1 : AtO o f 15) (h2 : InfA f r) : InfO o r
structure InfW (W : Wd) (i : Inf) (r : Rw) : Prop where
  h1 : W i.x = some (instObj 52 i.d)
  h2 : InfO i.o r
noncomputable def led (is : List Inf) : Led := is.map fun i => (i.d, i.o)
noncomputable def refs (is : List Inf) : List Value := is.map fun i => .ref i.x
theorem InfW.up {W W' : Wd} {i : Inf} {r : Rw} (h : InfW W i r) (le : Le W W') : InfW W' i r := ⟨le _ _ h.1, h.2⟩

structure Nm where
  cls : List (Int × Int)
  parts : List (Int × Int × Int)
noncomputable def look {β : Type} (xs : List (Int × β)) (k : Int) : Option β := (xs.find? fun x => decide (x.1 = k)).map (·.2)
noncomputable def Nm.classOf (N : Nm) (c : Int) : Int := (look N.cls c).getD 0
noncomputable def Nm.partsOf (N : Nm) (c : Int) : Option (Int × Int) := look N.parts c
noncomputable def Nm.cl (N : Nm) (r : Rw) : Int := if 0 < r.2.2.1 then 0 else N.classOf r.1

inductive IntV (a : Int × Value) (b : Int × Int) : Prop
  | mk (h1 : a.1 = b.1) (t) (h2 : a.2 = .int b.2 t) : IntV a b
inductive Tup2 (W : Wd) (v : Value) (p : Int × Int) : Prop
  | mk (a) (t) (u) (h1 : v = .ref a) (h2 : W a = some { cls := .type "tuple", data := .seq ([.int p.1 t, .int p.2 u] : List Value).toArray }) : Tup2 W v p
theorem Tup2.up {W W' : Wd} {v : Value} {p : Int × Int} (h : Tup2 W v p) (le : Le W W') : Tup2 W' v p := let ⟨a, t, u, e, h⟩ := h; ⟨a, t, u, e, le _ _ h⟩
structure PartV (W : Wd) (a : Int × Value) (b : Int × Int × Int) : Prop where
  h1 : a.1 = b.1
  h2 : Tup2 W a.2 b.2
theorem PartV.up {W W' : Wd} {a : Int × Value} {b : Int × Int × Int} (h : PartV W a b) (le : Le W W') : PartV W' a b := ⟨h.1, h.2.up le⟩
inductive NormW (prog : Program) (w : World) (W : Wd) (x : Addr) (N : Nm) : Prop
  | mk (dx) (od) (f) (p) (c) (pk) (ck) (h1 : W x = some (instObj 152 dx)) (h2 : W dx = some od) (h3 : AtO od f 2) (h4 : f "parts" = some (.ref p)) (h5 : f "classes" = some (.ref c)) (h6 : f "class_of" = none) (h7 : f "wholes" = none) (h8 : DctW prog w W p pk) (h9 : All2 (PartV W) pk N.parts) (h10 : DctW prog w W c ck) (h11 : All2 IntV ck N.cls) : NormW prog w W x N
theorem NormW.up {prog : Program} {w : World} {W W' : Wd} {x : Addr} {N : Nm} (h : NormW prog w W x N) (le : Le W W') : NormW prog w W' x N :=
  let ⟨dx, od, f, p, c, pk, ck, h1, h2, h3, h4, h5, h6, h7, h8, h9, h10, h11⟩ := h
  ⟨dx, od, f, p, c, pk, ck, le _ _ h1, le _ _ h2, h3, h4, h5, h6, h7, h8.up le, h9.mono fun _ _ q => q.up le, h10.up le, h11⟩
inductive CharW (prog : Program) (w : World) (W : Wd) (x : Addr) (kn : List Int) : Prop
  | mk (dx) (od) (f) (d) (kvs) (h1 : W x = some (instObj 299 dx)) (h2 : W dx = some od) (h3 : AtO od f 2) (h4 : f "codes" = some (.ref d)) (h5 : f "glyph" = none) (h6 : DctW prog w W d kvs) (h7 : ∀ k, (k ∈ kn → ∃ t, valueAt kvs k = some (.int k t)) ∧ (¬ k ∈ kn → valueAt kvs k = none)) : CharW prog w W x kn
theorem CharW.up {prog : Program} {w : World} {W W' : Wd} {x : Addr} {kn : List Int} (h : CharW prog w W x kn) (le : Le W W') : CharW prog w W' x kn :=
  let ⟨dx, od, f, d, kvs, h1, h2, h3, h4, h5, h6, h7⟩ := h
  ⟨dx, od, f, d, kvs, le _ _ h1, le _ _ h2, h3, h4, h5, h6.up le, h7⟩

theorem look_of {β : Type} {R : Int × Value → Int × β → Prop} (hk : ∀ a b, R a b → a.1 = b.1) : ∀ {ks : List (Int × Value)} {qs : List (Int × β)}, All2 R ks qs → ∀ k,
    (look qs k = none ∧ valueAt ks k = none) ∨ ∃ a b, look qs k = some b ∧ valueAt ks k = some a ∧ R (k, a) (k, b)
  | _, _, .nil, k => .inl ⟨rfl, rfl⟩
  | _, _, .cons (a := a) (b := b) (as := as) (bs := bs) h r, k => by
    have e := hk _ _ h
    by_cases q : b.1 = k
    · refine .inr ⟨a.2, b.2, by simp [look, q], by simp [valueAt, e, q], ?_⟩
      obtain ⟨a1, a2⟩ := a
      obtain ⟨b1, b2⟩ := b
      simp only at e q ⊢
      subst q; subst e; exact h
    · have e1 : look (b :: bs) k = look bs k := by simp [look, q]
      have e2 : valueAt (a :: as) k = valueAt as k := by simp [valueAt, e, q]
      rw [e1, e2]
      exact look_of hk r k
theorem look_int {ks : List (Int × Value)} {qs : List (Int × Int)} (h : All2 IntV ks qs) (k : Int) (t0 : Tok) : ∃ t, (valueAt ks k).getD (.int 0 t0) = .int ((look qs k).getD 0) t := by
  rcases look_of (fun _ _ h => h.1) h k with ⟨h1, h2⟩ | ⟨a, b, h1, h2, h3⟩
  · rw [h1, h2]; exact ⟨_, rfl⟩
  · rw [h1, h2]
    obtain ⟨_, t, e⟩ := h3
    exact ⟨t, e⟩

theorem Room.make {A : Around} {n : Nat} {C : Addr} {vals : List Value} (r : Room A (n + 1)) : Room (A.under (.builtin "type.__call__" ⟨.ref C :: vals, []⟩)) n :=
  ⟨r.hd, by have := r.dp; rw [depth_under_make]; omega, by have := r.un; rw [units_under_make]; omega⟩
theorem Cl.mono {prog : Program} {w : World} {A : Around} {W : Wd} {X : Led} {f : Value} {args : List Value} {P Q : Value → Wd → Led → Prop} (h : Cl prog w A W X f args P) (k : ∀ v W' X', P v W' X' → Q v W' X') : Cl prog w A W X f args Q :=
  .mk fun s S => codeAny_mono (h.run s S) fun r s' ⟨v, W', X', e, D, p⟩ => ⟨v, W', X', e, D, k v W' X' p⟩
theorem Cl.freeze {prog : Program} {w : World} {A : Around} {W : Wd} {X : Led} {f : Value} {args : List Value} {P Q : Value → Wd → Led → Prop} (h : Cl prog w A W X f args P)
    (k : ∀ v W' X', P v W' X' → ∃ a o X'', X' = (a, o) :: X'' ∧ ∀ W'', W'' a = some o → Le W' W'' → Q v W'' X'') : Cl prog w A W X f args Q :=
  .mk fun s S => codeAny_mono (h.run s S) fun r s' ⟨v, W', X', e, D, p⟩ => by
    refine und fun Gq hGq => ?_
    obtain ⟨a, o, X'', rfl, q⟩ := k v W' X' p
    refine hGq ?_
    clear hGq Gq
    exact ⟨v, _, X'', e, D.freeze.1, q _ put_same (put_le D.freeze.2)⟩
/-- at the end: the first of X is frozen -/
theorem Tr.postF {α : Type} {prog : Program} {w : World} {A : Around} {env : Env} {g : Org} {m : Vm} {W : Wd} {X : Led} {t : Sem α} {Q : α → Vm → Wd → Led → Prop}
    (h : Tr prog w A env g m W X t fun v m' W' X' => ∃ a o X'', X' = (a, o) :: X'' ∧ ∀ W'', W'' a = some o → Le W' W'' → Q v m' W'' X'') : Tr prog w A env g m W X t Q :=
  .mk fun s C => h.go C fun v s' m' W' X' C' ⟨a, o, X'', e, q⟩ => by subst e; exact ⟨m', _, X'', C'.freeze.1, q _ put_same (put_le C'.freeze.2)⟩
/-- a list of ints, frozen -/
inductive RowV (W : Wd) (v : Value) (ns : List Int) : Prop
  | mk (l) (vs) (h1 : v = .ref l) (h2 : LstW W l vs) (h3 : IntsAre vs ns) : RowV W v ns
theorem RowV.up {W W' : Wd} {v : Value} {ns : List Int} (h : RowV W v ns) (le : Le W W') : RowV W' v ns := let ⟨l, vs, e, a, b⟩ := h; ⟨l, vs, e, a.up le, b⟩
noncomputable def Nm.split (N : Nm) : List Int → Option (List Int)
  | [] => none
  | c :: r => match N.partsOf c with
    | none => none
    | some (a, b) => some (if b = 0 then a :: r else a :: b :: r)
noncomputable def Nm.chain (N : Nm) : Nat → List Int → List (List Int)
  | 0, row => [row]
  | n + 1, row => row :: match N.split row with
    | none => []
    | some r => N.chain n r
noncomputable def Nm.had (N : Nm) (kn : List Int) (c : Int) : List Int := ((N.chain 8 [c]).reverse.find? fun row => row.all fun x => decide (x ∈ kn)).getD [c]
section
variable {prog : Program} {w : World} {A : Around} {env : Env} {g : Org} {m : Vm} {W : Wd} {X : Led} {Q : Value → Vm → Wd → Led → Prop} {value slice : Expr} {l : Addr} {vs : List Value} {k : Int} {u : Tok} {x : Value}
theorem su_lstN (hl : LstX W X l vs) (h0 : k < 0) (hf : -2 ^ 63 ≤ k) (hn : 0 ≤ k + vs.length) (hx : vs[(k + vs.length).toNat]? = some x) (hs : subscripted slice false (.ref l) (.int k u) = operate [.ref l, .int k u] (getItem (.ref l) (.int k u))) (h : Q x m W X) :
    Tr prog w A env g m W X (subscriptTail value slice (.ref l) (.int k u)) Q := .mk fun _ C =>
  tail_any (C.adv.st.lst hl).typeIs slot_list_getitem.lookup (wpAny_getItem_list_neg (C.adv.st.lst hl) h0 (by rw [List.size_toArray]; omega) hf (by simpa using hx) ⟨_, _, _, C, h⟩) hs
theorem su_lst1 {y : Value} {ys : List Value} (hl : LstX W X l (ys ++ [y])) (hs : subscripted slice false (.ref l) (.int (-1) u) = operate [.ref l, .int (-1) u] (getItem (.ref l) (.int (-1) u))) (h : Q y m W X) :
    Tr prog w A env g m W X (subscriptTail value slice (.ref l) (.int (-1) u)) Q :=
  su_lstN hl (by decide) (by decide) (by rw [List.length_append, List.length_singleton]; omega) (by rw [List.length_append, List.length_singleton, show ((-1 : Int) + ((ys.length + 1 : Nat) : Int)).toNat = ys.length by omega]; simp) hs h
end
noncomputable def Nm.Ok (N : Nm) : Prop := ∀ c a b, N.partsOf c = some (a, b) → 0 < a ∧ a < 1000 ∧ 0 ≤ b ∧ b < 1000
theorem All2.unsnoc {α β : Type} {R : α → β → Prop} : ∀ {as : List α} {bs : List β} {b : β}, All2 R as (bs ++ [b]) → ∃ as' a, as = as' ++ [a] ∧ All2 R as' bs ∧ R a b
  | _, [], b, .cons x .nil => ⟨[], _, rfl, .nil, x⟩
  | _, b' :: bs, b, .cons (a := a) x r => let ⟨as', a', e, h1, h2⟩ := All2.unsnoc r; ⟨a :: as', a', by rw [e]; rfl, .cons x h1, h2⟩
theorem Nm.split_ok {N : Nm} (hN : N.Ok) {row r : List Int} (h : N.split row = some r) (hb : ∀ c ∈ row, c < 1000) : r ≠ [] ∧ r.length ≤ row.length + 1 ∧ ∀ c ∈ r, c < 1000 := by
  cases row with
  | nil => cases h
  | cons c row =>
    simp only [Nm.split] at h
    cases q : N.partsOf c with
    | none => rw [q] at h; cases h
    | some p =>
      obtain ⟨a, b⟩ := p
      rw [q] at h
      simp only [Option.some.injEq] at h
      refine und fun Gq hGq => ?_
      obtain ⟨o1, o2, o3, o4⟩ := hN c a b q
      refine hGq ?_
      clear hGq Gq
      have hb' : ∀ c ∈ row, c < 1000 := fun x hx => hb x (List.mem_cons_of_mem _ hx)
      split at h <;> subst h
      · refine ⟨nofun, by simp, fun x hx => ?_⟩
        rcases List.mem_cons.mp hx with rfl | hx
        · exact o2
        · exact hb' x hx
      · refine ⟨nofun, by simp, fun x hx => ?_⟩
        rcases List.mem_cons.mp hx with rfl | hx
        · exact o2
        rcases List.mem_cons.mp hx with rfl | hx
        · exact o4
        · exact hb' x hx
theorem Nm.chain_len {N : Nm} : ∀ (n : Nat) (row : List Int), (N.chain n row).length ≤ n + 1
  | 0, _ => by simp [Nm.chain]
  | n + 1, row => by
    unfold Nm.chain
    cases N.split row with
    | none => simp
    | some r => simpa using Nm.chain_len n r
end
section -- Lw
/-! sorting: stable -/
noncomputable def FV (φ : Keyed → Int) (xs : Array Keyed) (i : Nat) : Int := match xs[i]? with
  | some p => φ p
  | none => 0
theorem FV_congr {φ : Keyed → Int} {xs ys : Array Keyed} {i j : Nat} (h : xs[i]? = ys[j]?) : FV φ xs i = FV φ ys j := by unfold FV; rw [h]
theorem FV_bubble {φ : Keyed → Int} {xs : Array Keyed} {src d : Nat} (hs : src < xs.size) (hd : d ≤ src) (k : Nat) :
    FV φ (bubble xs src d) k = if k = src - d then FV φ xs src else if src - d < k ∧ k ≤ src then FV φ xs (k - 1) else FV φ xs k := by
  have e := getElem?_bubble hs d hd k
  by_cases h1 : k = src - d
  · rw [if_pos h1] at e ⊢; exact FV_congr e
  · rw [if_neg h1] at e ⊢
    by_cases h2 : src - d < k ∧ k ≤ src
    · rw [if_pos h2] at e ⊢; exact FV_congr e
    · rw [if_neg h2] at e ⊢; exact FV_congr e
theorem FV_mirror {φ : Keyed → Int} {xs : Array Keyed} {i j : Nat} (hj : j ≤ xs.size) (k : Nat) :
    FV φ (mirror xs i j ((j - i) / 2)) k = if i ≤ k ∧ k < j then FV φ xs (i + j - 1 - k) else FV φ xs k := by
  have e := getElem?_mirror_all (i := i) hj k
  by_cases h1 : i ≤ k ∧ k < j
  · rw [if_pos h1] at e ⊢; exact FV_congr e
  · rw [if_neg h1] at e ⊢; exact FV_congr e

section
variable (f pos : Keyed → Int)
noncomputable def SS (xs : Array Keyed) (k : Nat) : Prop := ∀ i j, i < j → j < k → FV f xs i < FV f xs j ∨ (FV f xs i = FV f xs j ∧ FV pos xs i < FV pos xs j)
noncomputable def RS (xs : Array Keyed) (k : Nat) : Prop := ∀ i j, i < j → j < k → FV f xs j < FV f xs i ∨ (FV f xs j = FV f xs i ∧ FV pos xs j < FV pos xs i)
noncomputable def Un (xs : Array Keyed) (k : Nat) : Prop := ∀ i, k ≤ i → i < xs.size → FV pos xs i = i
noncomputable def Lo (xs : Array Keyed) (k : Nat) : Prop := ∀ i, i < k → FV pos xs i < k
end
structure SInv (f pos : Keyed → Int) (xs : Array Keyed) (k : Nat) : Prop where
  ss : SS f pos xs k
  un : Un pos xs k
  lo : Lo pos xs k
structure DInv (f pos : Keyed → Int) (xs : Array Keyed) (x neq : Nat) : Prop where
  rs : RS f pos xs (x - neq)
  eq : ∀ i, x - (neq + 1) ≤ i → i < x → FV f xs i = FV f xs (x - 1)
  un : Un pos xs (x - neq)
  lo : Lo pos xs (x - neq)
  st : ∀ i, i < x - (neq + 1) → FV f xs (x - 1) < FV f xs i
  le : neq + 1 ≤ x
  sz : x ≤ xs.size
structure SB (kd : SortKind) (a₀ : Array Keyed) (st : SortSt) : Prop where
  perm : (arrOf st).Perm a₀
  kind : kindOf st = kd
  failed : failedOf st = none
  pend : pendingOf st = #[]
theorem SB.size {kd : SortKind} {a₀ : Array Keyed} {st : SortSt} (h : SB kd a₀ st) : (arrOf st).size = a₀.size := h.perm.size_eq
theorem SB.setArr {kd : SortKind} {a₀ : Array Keyed} {st : SortSt} (h : SB kd a₀ st) {xs : Array Keyed} (hp : xs.Perm (arrOf st)) : SB kd a₀ (setArr st xs) := ⟨hp.trans h.perm, h.kind, h.failed, h.pend⟩

variable {f pos : Keyed → Int}
theorem SInv.next {xs : Array Keyed} {x : Nat} (h : SInv f pos xs x) (hx : 1 ≤ x) (hs : x < xs.size) (hl : ¬ FV f xs x < FV f xs (x - 1)) : SInv f pos xs (x + 1) := by
  have px := h.un x (Nat.le_refl _) hs
  refine ⟨fun i j hij hj => ?_, fun i hi hi' => h.un i (by omega) hi', fun i hi => ?_⟩
  · by_cases q : j < x
    · exact h.ss i j hij q
    · obtain rfl : j = x := by omega
      have p1 := h.lo i hij
      by_cases q2 : i = j - 1
      · subst q2; omega
      · have := h.ss i (j - 1) (by omega) (by omega)
        omega
  · by_cases q : i < x
    · have := h.lo i q; omega
    · obtain rfl : i = x := by omega
      omega
/-- the last equal run turned round -/
theorem DInv.close {xs : Array Keyed} {x neq : Nat} (h : DInv f pos xs x neq) : RS f pos (mirror xs (x - (neq + 1)) x ((x - (x - (neq + 1))) / 2)) x ∧ Un pos (mirror xs (x - (neq + 1)) x ((x - (x - (neq + 1))) / 2)) x ∧ Lo pos (mirror xs (x - (neq + 1)) x ((x - (x - (neq + 1))) / 2)) x ∧
    ∀ i, i < x → FV f (mirror xs (x - (neq + 1)) x ((x - (x - (neq + 1))) / 2)) i = FV f xs i := by
  have hle := h.le
  have hsz := h.sz
  have ff : ∀ i, i < x → FV f (mirror xs (x - (neq + 1)) x ((x - (x - (neq + 1))) / 2)) i = FV f xs i := fun i hi => by
    rw [FV_mirror hsz]
    split
    · rw [h.eq _ (by omega) (by omega), h.eq i (by omega) hi]
    · rfl
  have pE : ∀ i, x - neq ≤ i → i < x → FV pos xs i = i := fun i h1 h2 => h.un i h1 (by omega)
  have p0 := h.lo (x - (neq + 1)) (by omega)
  refine ⟨fun i j hij hj => ?_, fun i hi hi' => ?_, fun i hi => ?_, ff⟩
  · rw [ff i (by omega), ff j hj, FV_mirror hsz, FV_mirror hsz]
    by_cases q1 : x - (neq + 1) ≤ i
    · rw [if_pos (by omega), if_pos (by omega)]
      have e1 := h.eq i q1 (by omega)
      have e2 := h.eq j (by omega) hj
      have b1 := pE (x - (neq + 1) + x - 1 - i) (by omega) (by omega)
      refine .inr ⟨by rw [e1, e2], ?_⟩
      by_cases q2 : j = x - 1
      · rw [show x - (neq + 1) + x - 1 - j = x - (neq + 1) by omega, b1]
        omega
      · have b2 := pE (x - (neq + 1) + x - 1 - j) (by omega) (by omega)
        rw [b1, b2]; omega
    · by_cases q2 : x - (neq + 1) ≤ j
      · left
        have e2 := h.eq j q2 hj
        rw [e2]; exact h.st i (by omega)
      · rw [if_neg (by omega), if_neg (by omega)]
        exact h.rs i j hij (by omega)
  · rw [FV_mirror hsz, if_neg (by omega)]
    refine h.un i (by omega) ?_
    rwa [mirror_size] at hi'
  · rw [FV_mirror hsz]
    split
    · rename_i q
      by_cases q2 : x - neq ≤ x - (neq + 1) + x - 1 - i
      · have := pE (x - (neq + 1) + x - 1 - i) q2 (by omega)
        omega
      · rw [show x - (neq + 1) + x - 1 - i = x - (neq + 1) by omega]; omega
    · have := h.lo i (by omega)
      omega
theorem DInv.open' {xs : Array Keyed} {x : Nat} (hr : RS f pos xs x) (hu : Un pos xs x) (hl : Lo pos xs x) (h1 : 1 ≤ x) (hs : x < xs.size) (hlt : FV f xs x < FV f xs (x - 1)) : DInv f pos xs (x + 1) 0 := by
  have px := hu x (Nat.le_refl _) hs
  have all : ∀ i, i < x → FV f xs x < FV f xs i := fun i hi => by
    by_cases q : i = x - 1
    · subst q; exact hlt
    · have := hr i (x - 1) (by omega) (by omega)
      omega
  refine ⟨fun i j hij hj => ?_, fun i h1 h2 => by congr 1; omega, fun i hi hi' => hu i (by omega) hi', fun i hi => ?_, fun i hi => by rw [show x + 1 - 1 = x by omega]; exact all i (by omega), by omega, by omega⟩
  · by_cases q : j < x
    · exact hr i j hij q
    · obtain rfl : j = x := by omega
      exact .inl (all i hij)
  · by_cases q : i < x
    · have := hl i q; omega
    · obtain rfl : i = x := by omega
      omega
theorem RS.rev {xs : Array Keyed} {n : Nat} (hr : RS f pos xs n) (hu : Un pos xs n) (hl : Lo pos xs n) (hs : n ≤ xs.size) : SInv f pos (mirror xs 0 n ((n - 0) / 2)) n := by
  refine ⟨fun i j hij hj => ?_, fun i hi hi' => ?_, fun i hi => ?_⟩
  · rw [FV_mirror hs, FV_mirror hs, FV_mirror hs, FV_mirror hs, if_pos (by omega), if_pos (by omega), if_pos (by omega), if_pos (by omega)]
    exact hr _ _ (by omega) (by omega)
  · rw [FV_mirror hs, if_neg (by omega)]
    refine hu i hi ?_
    rwa [mirror_size] at hi'
  · rw [FV_mirror hs, if_pos (by omega)]
    exact hl _ (by omega)

section
variable {prog : Program} {w : World} {A : Around} {E : Value → Shared → Prop} {s : Shared} {a₀ : Array Keyed} {kd : SortKind}
/-- what is asked of the comparison -/
noncomputable def Cmp (prog : Program) (w : World) (A : Around) (E : Value → Shared → Prop) (s : Shared) (a₀ : Array Keyed) (kd : SortKind) (f : Keyed → Int) : Prop :=
  ∀ {st : SortSt} {i j : Nat} {Q : Option Bool → SortSt → Prop}, SB kd a₀ st → i < a₀.size → j < a₀.size → Q (some (decide (FV f (arrOf st) i < FV f (arrOf st) j))) st → wpS (model prog w) A E s (ltAt' i j) Q st

theorem wpS_ascS {st : SortSt} {a nrem : Nat} {Q : AscSt → SortSt → Prop} (hC : Cmp prog w A E s a₀ kd f) (hn : nrem ≤ a₀.size) (ha : 1 ≤ a) (han : a ≤ nrem) (hB : SB kd a₀ st) (hI : SInv f pos (arrOf st) a)
    (h : ∀ n, a ≤ n → n ≤ nrem → SInv f pos (arrOf st) n → (n = nrem ∨ FV f (arrOf st) n < FV f (arrOf st) (n - 1)) → Q (none, n) st) : wpS (model prog w) A E s (ascLoop a nrem) Q st := by
  unfold ascLoop
  refine wpS_forRange (I := fun x c st' => st' = st ∧ c = (none, x) ∧ SInv f pos (arrOf st) x) ?step ?fin ⟨rfl, rfl, hI⟩
  case fin =>
    rintro c st' ⟨rfl, rfl, hs'⟩
    rw [show max a nrem = nrem by omega] at hs' ⊢
    exact h nrem han (Nat.le_refl _) hs' (.inl rfl)
  case step =>
    rintro x c st' hax hxn ⟨rfl, rfl, hs'⟩
    dsimp only
    refine wpS_bind (hC hB (by omega) (by omega) ?_)
    by_cases hless : FV f (arrOf st') x < FV f (arrOf st') (x - 1)
    · simp only [hless, decide_true, if_true]
      exact wpS_pure (h x hax (by omega) hs' (.inr hless))
    · simp only [hless, decide_false, Bool.false_eq_true, if_false]
      exact wpS_pure ⟨rfl, rfl, hs'.next (by omega) (by rw [hB.size]; omega) hless⟩

theorem wpS_tail3S {st : SortSt} {n nrem : Nat} {Q : Option Nat → SortSt → Prop} (hC : Cmp prog w A E s a₀ kd f) (hn : nrem ≤ a₀.size) (h1 : 1 ≤ n) (hnn : n ≤ nrem) (hB : SB kd a₀ st)
    (hr : RS f pos (arrOf st) n) (hu : Un pos (arrOf st) n) (hl : Lo pos (arrOf st) n) (h : ∀ m st', SB kd a₀ st' → 1 ≤ m → m ≤ nrem → SInv f pos (arrOf st') m → Q (some m) st') :
    wpS (model prog w) A E s (tail3 n nrem) Q st := by
  unfold tail3
  refine wpS_bind (wpS_reverse ?_)
  have hB' : SB kd a₀ (setArr st (mirror (arrOf st) 0 n ((n - 0) / 2))) := hB.setArr (mirror_perm _ _ _ _)
  exact wpS_bind (wpS_ascS (pos := pos) hC hn h1 hnn hB' (hr.rev hu hl (by rw [hB.size]; omega)) fun m hm1 hm2 hsm _ => wpS_pure (h m _ hB' (by omega) hm2 hsm))

theorem wpS_descS {st : SortSt} {n nrem : Nat} {Q : DescSt → SortSt → Prop} (hC : Cmp prog w A E s a₀ kd f) (hn : nrem ≤ a₀.size) (h1 : 1 ≤ n) (hnn : n ≤ nrem) (hB : SB kd a₀ st) (hD : DInv f pos (arrOf st) n 0)
    (h : ∀ m neq st', SB kd a₀ st' → n ≤ m → m ≤ nrem → DInv f pos (arrOf st') m neq → Q (none, m, neq) st') : wpS (model prog w) A E s (descLoop n nrem) Q st := by
  unfold descLoop
  refine wpS_forRange (I := fun x c st' => ∃ neq, c = (none, x, neq) ∧ SB kd a₀ st' ∧ DInv f pos (arrOf st') x neq) ?step ?fin ⟨0, rfl, hB, hD⟩
  case fin =>
    intro c st' hJ1
    refine und fun Gq hGq => ?_
    obtain ⟨neq, rfl, hB', hD'⟩ := hJ1
    refine hGq ?_
    clear hGq Gq
    rw [show max n nrem = nrem by omega] at hD' ⊢
    exact h nrem neq st' hB' hnn (Nat.le_refl _) hD'
  case step =>
    intro x c st' hax hxn hJ2
    refine und fun Gq hGq => ?_
    obtain ⟨neq, rfl, hB', hD'⟩ := hJ2
    refine hGq ?_
    clear hGq Gq
    dsimp only
    have hsz : x < (arrOf st').size := by rw [hB'.size]; omega
    have hle := hD'.le
    refine wpS_bind (hC hB' (by omega) (by omega) ?_)
    by_cases hless : FV f (arrOf st') x < FV f (arrOf st') (x - 1)
    · simp only [hless, decide_true, if_true]
      refine und fun Gq hGq => ?_
      obtain ⟨c1, c2, c3, c4⟩ := hD'.close
      refine hGq ?_
      clear hGq Gq
      by_cases hneq : neq > 0
      · rw [if_pos hneq]
        refine wpS_bind (wpS_reverse (wpS_pure ⟨0, rfl, hB'.setArr (mirror_perm _ _ _ _), ?_⟩))
        refine DInv.open' c1 c2 c3 (by omega) (by rw [mirror_size]; exact hsz) ?_
        rw [c4 (x - 1) (by omega)]
        show FV f (mirror (arrOf st') _ _ _) x < _
        rw [FV_mirror (by omega), if_neg (by omega)]
        exact hless
      · rw [if_neg hneq]
        obtain rfl : neq = 0 := by omega
        exact wpS_pure ⟨0, rfl, hB', DInv.open' hD'.rs hD'.un hD'.lo (by omega) hsz hless⟩
    · simp only [hless, decide_false, Bool.false_eq_true, if_false]
      refine wpS_bind (hC hB' (by omega) (by omega) ?_)
      by_cases hlarger : FV f (arrOf st') (x - 1) < FV f (arrOf st') x
      · simp only [hlarger, decide_true, if_true]
        exact wpS_pure (h x neq st' hB' hax (by omega) hD')
      · simp only [hlarger, decide_false, Bool.false_eq_true, if_false]
        have heqx : FV f (arrOf st') x = FV f (arrOf st') (x - 1) := by omega
        refine wpS_pure ⟨neq + 1, rfl, hB', ⟨by rw [show x + 1 - (neq + 1) = x - neq by omega]; exact hD'.rs, fun i h1 h2 => ?_, by rw [show x + 1 - (neq + 1) = x - neq by omega]; exact hD'.un, by rw [show x + 1 - (neq + 1) = x - neq by omega]; exact hD'.lo, fun i hi => ?_, by omega, by omega⟩⟩
        · rw [show x + 1 - 1 = x by omega]
          by_cases hix : i = x
          · subst hix; rfl
          · rw [heqx]; exact hD'.eq i (by omega) (by omega)
        · rw [show x + 1 - 1 = x by omega, heqx]; exact hD'.st i (by omega)

theorem wpS_descPartS {st : SortSt} {n nrem : Nat} {Q : Option Nat → SortSt → Prop} (hC : Cmp prog w A E s a₀ kd f) (hn : nrem ≤ a₀.size) (hnn : n + 1 ≤ nrem) (hB : SB kd a₀ st)
    (hD : DInv f pos (arrOf st) (n + 1) 0) (h : ∀ m st', SB kd a₀ st' → 1 ≤ m → m ≤ nrem → SInv f pos (arrOf st') m → Q (some m) st') :
    wpS (model prog w) A E s (descPart n nrem) Q st := by
  unfold descPart
  refine wpS_bind (wpS_lift (wpAny_rule ⟨rfl, ?_⟩))
  refine wpS_bind (wpS_descS (pos := pos) hC hn (by omega) hnn hB hD fun m neq st' hB' hm1 hm2 hD' => ?_)
  dsimp only
  refine und fun Gq hGq => ?_
  obtain ⟨c1, c2, c3, c4⟩ := hD'.close
  refine hGq ?_
  clear hGq Gq
  by_cases hneq : neq > 0
  · rw [if_pos hneq]
    exact wpS_bind (wpS_reverse (wpS_tail3S (pos := pos) hC hn (by omega) hm2 (hB'.setArr (mirror_perm _ _ _ _)) c1 c2 c3 h))
  · rw [if_neg hneq]
    obtain rfl : neq = 0 := by omega
    exact wpS_tail3S (pos := pos) hC hn (by omega) hm2 hB' hD'.rs hD'.un hD'.lo h

theorem wpS_countRunS {st : SortSt} {nrem : Nat} {Q : Option Nat → SortSt → Prop} (hC : Cmp prog w A E s a₀ kd f) (hn : nrem ≤ a₀.size) (h1 : 1 ≤ nrem) (hB : SB kd a₀ st) (hu : Un pos (arrOf st) 0)
    (h : ∀ m st', SB kd a₀ st' → 1 ≤ m → m ≤ nrem → SInv f pos (arrOf st') m → Q (some m) st') :
    wpS (model prog w) A E s (countRun' 0 nrem) Q st := by
  rw [countRun0_eq]
  have hsz0 : 0 < (arrOf st).size := by rw [hB.size]; omega
  have p0 := hu 0 (Nat.le_refl _) hsz0
  refine wpS_bind (wpS_ascS (pos := pos) hC hn (Nat.le_refl 1) h1 hB ⟨fun i j hij hj => by omega, fun i hi hi' => hu i (by omega) hi', fun i hi => by obtain rfl : i = 0 := (by omega); rw [p0]; decide⟩ fun n hn1 hn2 hsn hor => ?_)
  dsimp only
  by_cases hnn : n = nrem
  · rw [if_pos (by simpa using hnn)]
    exact wpS_pure (h n st hB hn1 hn2 hsn)
  · rw [if_neg (by simpa using hnn)]
    have hlt := hor.resolve_left hnn
    have hsz : n < (arrOf st).size := by rw [hB.size]; omega
    by_cases hgt : n > 1
    · rw [if_pos hgt]
      refine wpS_bind (hC hB (by omega) (by omega) ?_)
      by_cases hrose : FV f (arrOf st) 0 < FV f (arrOf st) (n - 1)
      · simp only [hrose, decide_true, if_true]
        exact wpS_pure (h n st hB hn1 hn2 hsn)
      · simp only [hrose, decide_false, Bool.false_eq_true, if_false]
        have hall : ∀ k, k < n → FV f (arrOf st) k = FV f (arrOf st) (n - 1) := by
          intro k hk
          have a1 : FV f (arrOf st) 0 ≤ FV f (arrOf st) k := by
            by_cases q : k = 0
            · subst q; omega
            · have := hsn.ss 0 k (by omega) hk; omega
          have a2 : FV f (arrOf st) k ≤ FV f (arrOf st) (n - 1) := by
            by_cases q : k = n - 1
            · subst q; omega
            · have := hsn.ss k (n - 1) (by omega) (by omega); omega
          omega
        refine wpS_bind (wpS_reverse (wpS_descPartS (pos := pos) hC hn (by omega) (hB.setArr (mirror_perm _ _ _ _)) ?_ h))
        have m1 : ∀ k, k < n → FV f (mirror (arrOf st) 0 n ((n - 0) / 2)) k = FV f (arrOf st) (n - 1) := fun k hk => by
          rw [FV_mirror (by omega), if_pos (by omega)]; exact hall _ (by omega)
        refine DInv.open' (xs := mirror (arrOf st) 0 n ((n - 0) / 2)) (fun i j hij hj => .inr ⟨by rw [m1 i (by omega), m1 j hj], ?_⟩) (fun i hi hi' => ?_) (fun i hi => ?_) (by omega) (by rw [mirror_size]; exact hsz) ?_
        · rw [FV_mirror (by omega), FV_mirror (by omega), if_pos (by omega), if_pos (by omega), hu _ (by omega) (by omega), hu _ (by omega) (by omega)]; omega
        · rw [FV_mirror (by omega), if_neg (by omega)]
          refine hu i (by omega) ?_
          rwa [mirror_size] at hi'
        · rw [FV_mirror (by omega), if_pos (by omega), hu _ (by omega) (by omega)]; omega
        · rw [m1 (n - 1) (by omega), FV_mirror (by omega), if_neg (by omega)]; exact hlt
    · rw [if_neg hgt]
      have hn1' : n = 1 := by omega
      subst hn1'
      exact wpS_descPartS (pos := pos) hC hn (by omega) hB (DInv.open' (fun i j hij hj => by omega) hsn.un hsn.lo (by omega) hsz hlt) h

theorem wpS_binarySortS {st : SortSt} {n ok : Nat} {Q : Bool → SortSt → Prop} (hC : Cmp prog w A E s a₀ kd f) (hn : n = a₀.size) (h1 : 1 ≤ ok) (hok : ok ≤ n) (hB : SB kd a₀ st) (hI : SInv f pos (arrOf st) ok)
    (h : ∀ st', SB kd a₀ st' → SInv f pos (arrOf st') n → Q true st') : wpS (model prog w) A E s (binarySort' 0 n ok) Q st := by
  rw [binarySort'_eq]
  simp only [Nat.zero_add]
  refine wpS_bind (wpS_mono (wpS_forRange (I := fun k c st' => c = (none, ()) ∧ SB kd a₀ st' ∧ SInv f pos (arrOf st') (min k n))
    (Q := fun c st' => c = (none, ()) ∧ SB kd a₀ st' ∧ SInv f pos (arrOf st') n) ?step ?fin ?init) ?post)
  case post =>
    rintro c st' ⟨rfl, hB', hs'⟩
    exact wpS_pure (h st' hB' hs')
  case init => exact ⟨rfl, hB, by rw [show min (max ok 1) n = ok by omega]; exact hI⟩
  case fin =>
    rintro c st' ⟨hc, hB', hs'⟩
    refine ⟨hc, hB', ?_⟩
    rwa [show min (max (max ok 1) n) n = n by omega] at hs'
  case step =>
    rintro k c st' hak hkn ⟨rfl, hB', hs'⟩
    rw [show min k n = k by omega] at hs'
    have hk : k < a₀.size := by omega
    refine wpS_bind (wpS_mono (wpS_forRange (I := fun x c st'' => st'' = st' ∧ ∃ l r, c = (none, l, r) ∧ l ≤ r ∧ r ≤ k ∧ r - l ≤ k - x ∧
        (∀ i, i < l → FV f (arrOf st') i ≤ FV f (arrOf st') k) ∧ (∀ i, r ≤ i → i < k → FV f (arrOf st') k < FV f (arrOf st') i))
      (Q := fun c st'' => st'' = st' ∧ ∃ l r, c = (none, l, r) ∧ l ≤ k ∧
        (∀ i, i < l → FV f (arrOf st') i ≤ FV f (arrOf st') k) ∧ (∀ i, l ≤ i → i < k → FV f (arrOf st') k < FV f (arrOf st') i)) ?istep ?ifin ?iinit) ?ipost)
    case iinit => exact ⟨rfl, 0, k, rfl, by omega, by omega, by omega, fun i hi => by omega, fun i h1 h2 => by omega⟩
    case ifin =>
      intro c st'' hJ3
      refine und fun Gq hGq => ?_
      obtain ⟨rfl, l, r, rfl, hlr, hrk, hm, hlo, hhi⟩ := hJ3
      refine hGq ?_
      clear hGq Gq
      have : l = r := by omega
      subst this
      exact ⟨rfl, l, l, rfl, hrk, hlo, hhi⟩
    case istep =>
      intro x c st'' _ hxk hJ4
      refine und fun Gq hGq => ?_
      obtain ⟨rfl, l, r, rfl, hlr, hrk, hm, hlo, hhi⟩ := hJ4
      refine hGq ?_
      clear hGq Gq
      dsimp only
      by_cases hge : l ≥ r
      · rw [if_pos hge]
        have : l = r := by omega
        subst this
        exact wpS_pure ⟨rfl, l, l, rfl, hrk, hlo, hhi⟩
      · rw [if_neg hge]
        refine wpS_bind (hC hB' hk (by omega) ?_)
        by_cases hless : FV f (arrOf st'') k < FV f (arrOf st'') ((l + r) / 2)
        · simp only [hless, decide_true, if_true]
          refine wpS_pure ⟨rfl, l, (l + r) / 2, rfl, by omega, by omega, by omega, hlo, fun i h1 h2 => ?_⟩
          by_cases q : i = (l + r) / 2
          · subst q; exact hless
          · have := hs'.ss ((l + r) / 2) i (by omega) h2; omega
        · simp only [hless, decide_false, Bool.false_eq_true, if_false]
          refine wpS_pure ⟨rfl, (l + r) / 2 + 1, r, rfl, by omega, by omega, by omega, fun i h1 => ?_, hhi⟩
          by_cases q : i = (l + r) / 2
          · subst q; omega
          · have := hs'.ss i ((l + r) / 2) (by omega) (by omega); omega
    case ipost =>
      intro c st'' hJ5
      refine und fun Gq hGq => ?_
      obtain ⟨rfl, l, r, rfl, hlk, hlo, hhi⟩ := hJ5
      refine hGq ?_
      clear hGq Gq
      show wpS _ _ _ _ (do moveDown' k l; pure (ForInStep.yield (none, ()))) _ _
      rw [moveDown'_eq]
      have hks : k < (arrOf st'').size := by rw [hB'.size]; exact hk
      have pk := hs'.un k (Nat.le_refl _) hks
      refine wpS_bind (wpS_modify (wpS_pure ⟨rfl, hB'.setArr (bubble_perm _ _ _), ?_⟩))
      rw [show min (k + 1) n = k + 1 by omega]
      have hb1 : ∀ φ j, FV φ (bubble (arrOf st'') k (k - l)) j = if j = l then FV φ (arrOf st'') k else if l < j ∧ j ≤ k then FV φ (arrOf st'') (j - 1) else FV φ (arrOf st'') j := fun φ j => by
        rw [FV_bubble hks (by omega), show k - (k - l) = l by omega]
      refine ⟨fun i j hij hj => ?_, fun i hi hi' => ?_, fun i hi => ?_⟩
      · show FV f (bubble (arrOf st'') k (k - l)) i < FV f (bubble (arrOf st'') k (k - l)) j ∨ (FV f (bubble (arrOf st'') k (k - l)) i = FV f (bubble (arrOf st'') k (k - l)) j ∧ FV pos (bubble (arrOf st'') k (k - l)) i < FV pos (bubble (arrOf st'') k (k - l)) j)
        by_cases q1 : i = l
        · simp only [hb1, if_pos q1, if_neg (show ¬ j = l by omega), if_pos (show l < j ∧ j ≤ k by omega)]
          exact .inl (hhi _ (by omega) (by omega))
        · by_cases q2 : j = l
          · simp only [hb1, if_neg q1, if_pos q2, if_neg (show ¬ (l < i ∧ i ≤ k) by omega)]
            have := hlo i (by omega)
            have := hs'.lo i (by omega)
            omega
          · by_cases q3 : l < i ∧ i ≤ k
            · simp only [hb1, if_neg q1, if_neg q2, if_pos q3, if_pos (show l < j ∧ j ≤ k by omega)]
              exact hs'.ss _ _ (by omega) (by omega)
            · by_cases q4 : l < j ∧ j ≤ k
              · simp only [hb1, if_neg q1, if_neg q2, if_neg q3, if_pos q4]
                exact hs'.ss _ _ (by omega) (by omega)
              · simp only [hb1, if_neg q1, if_neg q2, if_neg q3, if_neg q4]
                exact hs'.ss _ _ (by omega) (by omega)
      · show FV pos (bubble (arrOf st'') k (k - l)) i = i
        rw [hb1, if_neg (by omega), if_neg (by omega)]
        refine hs'.un i (by omega) ?_
        have hi'' : i < (bubble (arrOf st'') k (k - l)).size := hi'
        rwa [bubble_size] at hi''
      · show FV pos (bubble (arrOf st'') k (k - l)) i < _
        rw [hb1]
        split
        · rw [pk]; omega
        · split
          · have := hs'.lo (i - 1) (by omega); omega
          · have := hs'.lo i (by omega); omega

theorem wpS_sortRunsS {st : SortSt} {Q : Unit → SortSt → Prop} (hC : Cmp prog w A E s a₀ kd f) (hB : SB kd a₀ st) (hu : Un pos (arrOf st) 0) (h2 : 2 ≤ a₀.size) (h64 : a₀.size < 64)
    (h : ∀ st', (arrOf st').Perm a₀ → failedOf st' = none → SS f pos (arrOf st') a₀.size → Q () st') : wpS (model prog w) A E s sortRuns' Q st := by
  rw [sortRuns'_eq]
  refine wpS_bind (wpS_get ?_)
  dsimp only
  have hmr : minRun' a₀.size a₀.size 0 = a₀.size := by
    obtain ⟨f, hf⟩ : ∃ f, a₀.size = f + 1 := ⟨a₀.size - 1, by omega⟩
    have : minRun' (f + 1) a₀.size 0 = a₀.size := by rw [minRun'_succ, if_pos h64]; rfl
    rwa [← hf] at this
  simp only [hB.size, hmr]
  refine wpS_bind (wpS_mono (wpS_forRange
    (I := fun x c st' => (x = 0 ∧ c = (none, 0) ∧ SB kd a₀ st' ∧ Un pos (arrOf st') 0) ∨ (1 ≤ x ∧ c = (none, a₀.size) ∧ (arrOf st').Perm a₀ ∧ failedOf st' = none ∧ pendingOf st' = #[(0, a₀.size, 0)] ∧ SS f pos (arrOf st') a₀.size))
    (Q := fun c st' => c = (none, a₀.size) ∧ (arrOf st').Perm a₀ ∧ failedOf st' = none ∧ pendingOf st' = #[(0, a₀.size, 0)] ∧ SS f pos (arrOf st') a₀.size) ?step ?fin (.inl ⟨rfl, rfl, hB, hu⟩)) ?post)
  case fin =>
    rintro c st' (⟨hx, _, _⟩ | ⟨_, hc, hD⟩)
    · omega
    · exact ⟨hc, hD⟩
  case step =>
    rintro x c st' _ hx (⟨rfl, rfl, hB', hu'⟩ | ⟨hx1, rfl, hD⟩)
    · dsimp only
      rw [if_neg (by omega)]
      simp only [Nat.sub_zero, Nat.min_self, Nat.zero_add]
      refine wpS_bind (wpS_countRunS (pos := pos) hC (Nat.le_refl _) (by omega) hB' hu' fun m st2 hB2 hm1 hm2 hs2 => ?_)
      dsimp only
      by_cases hlt : m < a₀.size
      · rw [if_pos hlt]
        refine wpS_bind (wpS_lift (wpAny_rule ⟨rfl, ?_⟩))
        refine wpS_bind (wpS_binarySortS (pos := pos) hC rfl hm1 hm2 hB2 hs2 fun st3 hB3 hs3 => ?_)
        simp only [Bool.not_true, Bool.false_eq_true, if_false]
        refine wpS_bind (wpS_get ?_)
        have hb : (pendingOf st3).back? = none := by rw [hB3.pend]; rfl
        rw [hb]
        dsimp only
        exact wpS_bind (wpS_modify (wpS_pure (.inr ⟨by omega, rfl, hB3.perm, hB3.failed, by show (pendingOf st3).push _ = _; rw [hB3.pend]; rfl, hs3.ss⟩)))
      · rw [if_neg hlt]
        have hm : m = a₀.size := by omega
        subst hm
        refine wpS_bind (wpS_get ?_)
        have hb : (pendingOf st2).back? = none := by rw [hB2.pend]; rfl
        rw [hb]
        dsimp only
        exact wpS_bind (wpS_modify (wpS_pure (.inr ⟨by omega, rfl, hB2.perm, hB2.failed, by show (pendingOf st2).push _ = _; rw [hB2.pend]; rfl, hs2.ss⟩)))
    · dsimp only
      rw [if_pos (Nat.le_refl _)]
      exact wpS_pure ⟨rfl, hD⟩
  case post =>
    rintro c st' ⟨rfl, hD⟩
    dsimp only
    refine wpS_bind (wpS_mono (wpS_forRange (I := fun _ c st'' => st'' = st' ∧ c = (none, ())) (Q := fun c st'' => st'' = st' ∧ c = (none, ())) ?_ (fun _ _ hh => hh) ⟨rfl, rfl⟩) ?_)
    · rintro x c st'' _ _ ⟨rfl, rfl⟩
      refine wpS_bind (wpS_get ?_)
      rw [if_pos (by rw [hD.2.2.1]; exact Nat.le_refl 1)]
      exact wpS_pure ⟨rfl, rfl⟩
    · rintro c st'' ⟨rfl, rfl⟩
      exact wpS_pure (h _ hD.1 hD.2.1 hD.2.2.2)
end
end
section -- Lx
section
variable {prog : Program} {w : World} {A : Around} {env : Env} {g : Org} {m : Vm} {W : Wd} {X : Led} {s : Shared}

/-- what a sort leaves -/
noncomputable def SortOut (f pos : Keyed → Int) (a₀ : Array Keyed) (out : List Value) : Prop := ∃ arr : Array Keyed, arr.Perm a₀ ∧ SS f pos arr a₀.size ∧ out = (arr.map (·.2)).toList
theorem SortOut.small {f pos : Keyed → Int} {a₀ : Array Keyed} (h : a₀.size < 2) : SortOut f pos a₀ (a₀.map (·.2)).toList := ⟨a₀, Array.Perm.refl _, fun i j hij hj => by omega, rfl⟩
theorem SortOut.len {f pos : Keyed → Int} {a₀ : Array Keyed} {out : List Value} (h : SortOut f pos a₀ out) : out.length = a₀.size := by
  refine und fun Gq hGq => ?_
  obtain ⟨arr, hp, _, rfl⟩ := h
  refine hGq ?_
  clear hGq Gq
  simp [hp.size_eq]

noncomputable abbrev lo (vs : List Value) (n : Nat) : Obj := seqObj "list" vs.toArray n

theorem plO_arr (xs : Array Value) (n : Nat) : PlO (seqObj "list" xs n) xs.toList := ⟨n, by cases xs; rfl⟩
/-- a list sorted without a key -/
theorem sort_plain {D : Addr} {vs : List Value} {n : Nat} {f pos : Keyed → Int} {kd : SortKind} {P : PySem.Fin → Shared → Prop} (C : Cur env m g W ((D, lo vs n) :: X) s) (h64 : vs.length < 64)
    (hkind : ∀ s', St W X s'.heap → 2 ≤ vs.length → ∀ Q : SortKind → Shared → Prop, Q kd s' → wpAny (model prog w) A (keyKind' vs.toArray) Q no s')
    (hcmp : ∀ s', St W X s'.heap → Cmp prog w A no s' (pairsOf vs) kd f) (hun : Un pos (pairsOf vs) 0)
    (h : ∀ o' out s', Cur env m g W ((D, o') :: X) s' → PlO o' out → SortOut f pos (pairsOf vs) out → P (.done (.ret .none)) s') :
    wpAny (model prog w) A (Builtin.«list.sort» ⟨[.ref D], []⟩) P no s := by
  rw [list_sort_plain]
  have ho := C.adv.st.x D _ List.mem_cons_self
  refine wpAny_bind (listItems_at ho rfl ?_)
  refine wpAny_bind (listUpdate_at ho rfl ?_ (by rw [List.size_toArray, sizeLine_eq]; omega) (Nat.zero_le _))
  obtain ⟨e1, ho1⟩ : ∃ e1, (s.heap.update D (Obj.mapSeq fun _ => #[])).get? D = some (seqObj "list" #[] e1) := ⟨_, get?_update_seq ho (fun _ => #[])⟩
  have C1 := C.set (Heap.SameBut.update ..) ho1
  refine wpAny_bind (seqEpoch_at ho1 rfl ?_)
  refine wpAny_bind (wpAny_newTuple ?_ (by show vs.toArray.toList.length ≤ _; simp; rw [sizeLine_eq]; omega))
  refine wpAny_bind (wpAny_newList ?_ (Nat.zero_le _))
  refine wpAny_holding ?_
  have C2 := (C1.keep (fun b o e => Heap.get?_push_of_some (seqObj "tuple" vs.toArray 0) e) s.toks).keep (fun b o e => Heap.get?_push_of_some (seqObj "list" #[] 0) e) s.toks
  have ho6 := C2.adv.st.x D _ List.mem_cons_self
  have St2 : St W X (((s.heap.update D (Obj.mapSeq fun _ => #[])).push (seqObj "tuple" vs.toArray 0)).push (seqObj "list" #[] 0)) := C2.adv.st.perm (fun p hp => List.mem_cons_of_mem _ hp) (by have := C2.adv.st.nd; rw [adr_cons] at this; exact (List.nodup_cons.mp this).2)
  show wpAny (model prog w) A _ P no { s with heap := ((s.heap.update D (Obj.mapSeq fun _ => #[])).push (seqObj "tuple" vs.toArray 0)).push (seqObj "list" #[] 0) }
  dsimp only
  have fin : ∀ arr : Array Keyed, arr.Perm (pairsOf vs) → SS f pos arr (pairsOf vs).size → (arr.map (·.2)).size ≤ sizeLine + 1 → wpAny (model prog w) A (Builtin.List.listUpdate (.ref D) fun _ => arr.map (·.2)) (fun _ s' => P (.done (.ret .none)) s') no
      { s with heap := ((s.heap.update D (Obj.mapSeq fun _ => #[])).push (seqObj "tuple" vs.toArray 0)).push (seqObj "list" #[] 0) } := fun arr hp hs hz => by
    refine listUpdate_at ho6 rfl ?_ (Nat.zero_le _) hz
    have hg := get?_update_seq ho6 (fun _ => arr.map (·.2))
    exact h _ _ _ (C2.set (Heap.SameBut.update ..) hg) (plO_arr _ _) ⟨arr, hp, hs, rfl⟩
  have hsz : ∀ arr : Array Keyed, arr.Perm (pairsOf vs) → (arr.map (·.2)).size ≤ sizeLine + 1 := fun arr hp => by
    rw [Array.size_map, hp.size_eq, pairsOf_size, sizeLine_eq]; omega
  by_cases h2 : vs.toArray.size < 2
  · rw [if_pos h2, if_pos h2]
    refine wpAny_bind (wpAny_pure ?_)
    rw [StateT.run_pure]
    refine wpAny_bind (wpAny_pure ?_)
    dsimp only
    refine wpAny_bind (seqEpoch_at ho6 rfl ?_)
    refine wpAny_bind (wpAny_mono (fin (pairsOf vs) (Array.Perm.refl _) (fun i j hij hj => by rw [pairsOf_size] at hj; simp at h2; omega) (hsz _ (Array.Perm.refl _))) (fun _ s' hP => ?_) fun _ _ e => e)
    simp only [bne_self_eq_false, Bool.false_eq_true, if_false]
    exact wpAny_pure hP
  · rw [if_neg h2, if_neg h2]
    rw [List.size_toArray] at h2
    refine wpAny_bind (hkind { s with heap := ((s.heap.update D (Obj.mapSeq fun _ => #[])).push (seqObj "tuple" vs.toArray 0)).push (seqObj "list" #[] 0) } St2 (by omega) _ ?_)
    refine wpAny_bind (wpAny_mono (wpS_sortRunsS (f := f) (pos := pos) (kd := kd) (a₀ := pairsOf vs) (st := SortSt.mk' kd (vs.toArray.zip vs.toArray) #[] 7 none)
      (Q := fun _ st' => (arrOf st').Perm (pairsOf vs) ∧ failedOf st' = none ∧ SS f pos (arrOf st') (pairsOf vs).size)
      (hcmp _ St2) ⟨Array.Perm.refl _, rfl, rfl, rfl⟩ hun (by rw [pairsOf_size]; omega) (by rw [pairsOf_size]; exact h64) fun st' a1 a2 a3 => ⟨a1, a2, a3⟩) ?_ fun _ _ e => e)
    intro hJ1 s' hJ2
    refine und fun Gq hGq => ?_
    obtain ⟨⟨⟩, st'⟩ := hJ1
    obtain ⟨rfl, hp, hf, hs⟩ := hJ2
    refine hGq ?_
    clear hGq Gq
    dsimp only
    refine wpAny_bind (seqEpoch_at ho6 rfl ?_)
    refine wpAny_bind (wpAny_mono (fin (arrOf st') hp hs (hsz _ hp)) (fun _ s' hP => ?_) fun _ _ e => e)
    rw [hf]
    simp only [bne_self_eq_false, Bool.false_eq_true, if_false]
    exact wpAny_pure hP

/-- with a key that gives ints -/
theorem sort_key {D q : Addr} {vs : List Value} {n : Nat} {kz : List Int} {pos : Keyed → Int} {P : PySem.Fin → Shared → Prop} (C : Cur env m g W ((D, lo vs n) :: X) s) (h64 : vs.length < 64) (hlen : kz.length = vs.length)
    (hcall : ∀ (i : Nat) (v : Value) (k : Int), vs[i]? = some v → kz[i]? = some k → ∀ W' X', Le W W' → (∀ p ∈ X, p ∈ X') → Tr prog w A env g m W' X' (call (.ref q) [v]) fun r m₂ W₂ X₂ => m₂ = m ∧ Le W' W₂ ∧ (∃ t, r = .int k t) ∧ X₂ = X')
    (hun : ∀ keys : List Value, IntsAre keys kz → Un pos (keys.toArray.zip vs.toArray) 0)
    (h : ∀ o' out W' s' keys, Le W W' → Cur env m g W' ((D, o') :: X) s' → PlO o' out → IntsAre keys kz → SortOut (fun p => numOf p.1) pos (keys.toArray.zip vs.toArray) out → P (.done (.ret .none)) s') :
    wpAny (model prog w) A (ksk_tree D (.ref q) false) P no s := by
  have ho := C.adv.st.x D _ List.mem_cons_self
  unfold ksk_tree
  refine wpAny_bind (listItems_at ho rfl ?_)
  refine wpAny_bind (listUpdate_at ho rfl ?_ (by rw [List.size_toArray, sizeLine_eq]; omega) (Nat.zero_le _))
  obtain ⟨e1, ho1⟩ : ∃ e1, (s.heap.update D (Obj.mapSeq fun _ => #[])).get? D = some (seqObj "list" #[] e1) := ⟨_, get?_update_seq ho (fun _ => #[])⟩
  have C1 := C.set (Heap.SameBut.update ..) ho1
  refine wpAny_bind (seqEpoch_at ho1 rfl ?_)
  refine wpAny_bind (wpAny_newTuple ?_ (by show vs.toArray.toList.length ≤ _; simp; rw [sizeLine_eq]; omega))
  refine wpAny_bind (wpAny_newList ?_ (Nat.zero_le _))
  refine wpAny_holding ?_
  have C2 := (C1.keep (fun b o e => Heap.get?_push_of_some (seqObj "tuple" vs.toArray 0) e) s.toks).push (seqObj "list" #[] 0)
  show wpAny (model prog w) A _ P no { s with heap := ((s.heap.update D (Obj.mapSeq fun _ => #[])).push (seqObj "tuple" vs.toArray 0)).push (seqObj "list" #[] 0) }
  dsimp only at C2
  generalize hkS : ((s.heap.update D (Obj.mapSeq fun _ => #[])).push (seqObj "tuple" vs.toArray 0)).objs.size = kS at C2
  unfold ksk_rest
  refine wpAny_bind (wpAny_rule ?_)
  rw [← Array.forIn_toList]
  refine wpAny_bind (ksk_fold (fun i s' => ∃ W' kA e, Cur env m g W' ((kS, seqObj "list" kA e) :: (D, seqObj "list" #[] e1) :: X) s' ∧ Le W W' ∧ IntsAre kA.toList (kz.take i)) vs 0 _
    ⟨W, #[], 0, C2, Le.refl _, by simpa using IntsAre.nil⟩ ?step ?done)
  case step =>
    intro j x s' hx hJ3
    refine und fun Gq hGq => ?_
    obtain ⟨W', kA, e, C', le, hk⟩ := hJ3
    refine hGq ?_
    clear hGq Gq
    simp only [Nat.zero_add] at hk ⊢
    have hj : j < vs.length := (List.getElem?_eq_some_iff.mp hx).1
    obtain ⟨k, hkj⟩ : ∃ k, kz[j]? = some k := ⟨_, List.getElem?_eq_getElem (by omega)⟩
    have hz : kA.size ≤ vs.length := by
      have h1 := hk.length
      rw [Array.length_toList, List.length_take] at h1
      omega
    have hc := hcall j x k hx hkj W' ((kS, seqObj "list" kA e) :: (D, seqObj "list" #[] e1) :: X) le fun p hp => .tail _ (.tail _ hp)
    refine wpAny_bind (wpAny_attempt (wpAny_mono (hc.run s' C') (fun v s'' he => ?_) fun _ _ hF => hF.elim))
    refine und fun Gq hGq => ?_
    obtain ⟨m₂, W₂, X₂, C₂, rfl, le₂, ⟨t2, rfl⟩, rfl⟩ := he
    refine hGq ?_
    clear hGq Gq
    try dsimp only
    have nk := C₂.adv.st.x kS _ List.mem_cons_self
    have s1 := Heap.SameBut.update s''.heap kS (Obj.mapSeq (·.push (.int k t2)))
    obtain ⟨c2, hc2⟩ : ∃ c2, (s''.heap.update kS (Obj.mapSeq (·.push (.int k t2)))).get? kS = some (seqObj "list" (kA.push (.int k t2)) c2) := ⟨_, get?_update_seq nk (·.push (.int k t2))⟩
    have ek : kz.take (j + 1) = kz.take j ++ [k] := by rw [List.take_add_one, hkj]; simp
    have ea : (kA.push (Value.int k t2)).toList = kA.toList ++ [Value.int k t2] := by simp
    refine wpAny_bind (listUpdate_at nk rfl ?_ (by rw [sizeLine_eq]; omega) (Nat.le_trans (Nat.le_of_eq (Array.size_push ..)) (by rw [sizeLine_eq]; omega)))
    exact wpAny_pure ⟨rfl, W₂, kA.push (.int k t2), c2, C₂.set s1 hc2, le.trans le₂, by rw [ea, ek]; exact ksk_snoc hk⟩
  case done =>
    intro s' hJ4
    refine und fun Gq hGq => ?_
    obtain ⟨W', kA, e, C', le, hk⟩ := hJ4
    refine hGq ?_
    clear hGq Gq
    have hk' : IntsAre kA.toList kz := by
      have e3 : kz.take (0 + vs.length) = kz := List.take_of_length_le (by omega)
      rw [e3] at hk
      exact hk
    have nk := C'.adv.st.x kS _ List.mem_cons_self
    have hsz : kA.size = vs.length := by
      have h1 := hk'.length
      rw [Array.length_toList] at h1
      omega
    have hzs : (kA.zip vs.toArray).size = vs.length := by rw [Array.size_zip, hsz, List.size_toArray, Nat.min_self]
    have hkA : kA.toList.toArray.zip vs.toArray = kA.zip vs.toArray := by rw [Array.toArray_toList]
    try dsimp only
    refine wpAny_bind (listItems_at nk rfl ?_)
    have C3 : Cur env m g W' ((D, seqObj "list" #[] e1) :: (kS, seqObj "list" kA e) :: X) s' := C'.drop (fun p hp => by rcases List.mem_cons.mp hp with rfl | hp; exact .tail _ (.head _); rcases List.mem_cons.mp hp with rfl | hp; exact .head _; exact .tail _ (.tail _ hp)) (by
      have := C'.adv.st.nd
      simp only [adr_cons] at this ⊢
      exact (List.Perm.swap _ _ _).nodup_iff.mp this)
    have tail : ∀ st : SortSt, (arrOf st).Perm (kA.zip vs.toArray) → SS (fun p => numOf p.1) pos (arrOf st) (kA.zip vs.toArray).size → failedOf st = none → wpAny (model prog w) A (ksk_tail D false e1 (.ref kS) st) P no s' := fun st hp hs hfl => by
      have s1 := Heap.SameBut.update s'.heap kS (Obj.mapSeq fun _ => (#[] : Array Value))
      obtain ⟨c1, hc1⟩ : ∃ c1, (s'.heap.update kS (Obj.mapSeq fun _ => (#[] : Array Value))).get? kS = some (seqObj "list" #[] c1) := ⟨_, get?_update_seq nk fun _ => #[]⟩
      have C4 := C'.set s1 hc1
      have C5 : Cur env m g W' ((D, seqObj "list" #[] e1) :: X) { s' with heap := s'.heap.update kS (Obj.mapSeq fun _ => (#[] : Array Value)) } := C4.drop (fun p hp => .tail _ hp) (by
        have := C4.adv.st.nd
        rw [adr_cons] at this
        exact (List.nodup_cons.mp this).2)
      have na1 := C5.adv.st.x D _ List.mem_cons_self
      have s2 := Heap.SameBut.update (s'.heap.update kS (Obj.mapSeq fun _ => (#[] : Array Value))) D (Obj.mapSeq fun _ => (arrOf st).map (·.2))
      obtain ⟨c2, hc2⟩ : ∃ c2, ((s'.heap.update kS (Obj.mapSeq fun _ => (#[] : Array Value))).update D (Obj.mapSeq fun _ => (arrOf st).map (·.2))).get? D = some (seqObj "list" ((arrOf st).map (·.2)) c2) :=
        ⟨_, get?_update_seq na1 fun _ => (arrOf st).map (·.2)⟩
      unfold ksk_tail
      try dsimp only
      refine wpAny_bind (listUpdate_at nk rfl ?_ (by rw [hsz, sizeLine_eq]; omega) (Nat.zero_le _))
      refine wpAny_bind (wpAny_letGo ?_)
      refine wpAny_bind (seqEpoch_at na1 rfl ?_)
      refine wpAny_bind (listUpdate_at na1 rfl ?_ (Nat.zero_le _) (by show ((arrOf st).map (·.2)).size ≤ _; rw [Array.size_map, hp.size_eq, hzs, sizeLine_eq]; omega))
      rw [hfl]
      simp only [bne_self_eq_false, Bool.false_eq_true, if_false]
      have hso : SortOut (fun p => numOf p.1) pos (kA.toList.toArray.zip vs.toArray) ((arrOf st).map (·.2)).toList := by rw [hkA]; exact ⟨arrOf st, hp, hs, rfl⟩
      exact wpAny_pure (h _ _ W' _ kA.toList le (C5.set s2 hc2) (plO_arr _ _) hk' hso)
    unfold ksk_end
    simp only [Bool.false_eq_true, if_false]
    by_cases h2 : vs.toArray.size < 2
    · rw [if_pos h2, if_pos h2]
      refine wpAny_bind (wpAny_pure ?_)
      rw [StateT.run_pure]
      refine wpAny_bind (wpAny_pure ?_)
      try dsimp only
      exact tail (SortSt.mk' general' (kA.zip vs.toArray) #[] 7 none) (Array.Perm.refl _) (fun i j hij hj => by rw [hzs] at hj; simp at h2; omega) rfl
    · rw [if_neg h2, if_neg h2]
      rw [List.size_toArray] at h2
      rw [ksk_kind hk' (by rw [hsz]; omega)]
      refine wpAny_bind (wpAny_pure ?_)
      have hik : PyProof.Rows.IntKeys (kA.zip vs.toArray) := ksk_intKeys hk'
      have hcmp : Cmp prog w A no s' (kA.zip vs.toArray) oneType' (fun p => numOf p.1) := fun {st i j Q} hB hi hj hq => by
        have at' : ∀ {i : Nat}, i < (kA.zip vs.toArray).size → ∃ t y, (arrOf st)[i]? = some (.int (FV (fun p => numOf p.1) (arrOf st) i) t, y) := fun {i} hi => by
          have hi' : i < (arrOf st).size := by rw [hB.size]; exact hi
          have hm : (arrOf st)[i] ∈ (kA.zip vs.toArray).toList := (Array.perm_iff_toList_perm.mp hB.perm).mem_iff.mp (by simp)
          obtain ⟨n, t, hn⟩ := hik _ hm
          have e : (arrOf st)[i]? = some (arrOf st)[i] := getElem?_pos _ i hi'
          have e2 : (arrOf st)[i] = (.int n t, (arrOf st)[i].2) := Prod.ext hn rfl
          refine ⟨t, (arrOf st)[i].2, ?_⟩
          unfold FV
          rw [e]
          simp only
          rw [show numOf (arrOf st)[i].1 = n by rw [hn]; rfl]
          rw [← e2]
        refine und fun Gq hGq => ?_
        obtain ⟨t1, y1, q1⟩ := at' hi
        obtain ⟨t2, y2, q2⟩ := at' hj
        refine hGq ?_
        clear hGq Gq
        exact wpS_ltAt hB.kind q1 q2 hq
      refine wpAny_bind (wpAny_mono (wpS_sortRunsS (f := fun p => numOf p.1) (pos := pos) (kd := oneType') (a₀ := kA.zip vs.toArray) (st := SortSt.mk' oneType' (kA.zip vs.toArray) #[] 7 none)
        (Q := fun _ st' => (arrOf st').Perm (kA.zip vs.toArray) ∧ failedOf st' = none ∧ SS (fun p => numOf p.1) pos (arrOf st') (kA.zip vs.toArray).size)
        hcmp ⟨Array.Perm.refl _, rfl, rfl, rfl⟩ (by have := hun kA.toList hk'; rwa [hkA] at this) (by rw [hzs]; omega) (by rw [hzs]; exact h64) fun st' a1 a2 a3 => ⟨a1, a2, a3⟩) ?_ fun _ _ e => e)
      intro hJ5 s'' hJ6
      refine und fun Gq hGq => ?_
      obtain ⟨⟨⟩, st'⟩ := hJ5
      obtain ⟨rfl, hp, hf, hs⟩ := hJ6
      refine hGq ?_
      clear hGq Gq
      try dsimp only
      exact tail st' hp hs hf
end
end
section -- Ly
section
variable {prog : Program} {w : World} {A : Around} {env : Env} {g : Org} {m : Vm} {W : Wd} {X : Led} {s : Shared}

/-- what may be collected -/
noncomputable def Src (prog : Program) (w : World) (A : Around) (W : Wd) (X : Led) (v : Value) (P : List Value → Prop) : Prop :=
  ∀ s, St W X s.heap → ∀ (R : List Value → Shared → Prop), (∀ h' tk vs, (∀ b o, s.heap.get? b = some o → h'.get? b = some o) → P vs → R vs { s with heap := h', toks := tk }) → wpAny (model prog w) A (collect v) R no s
theorem src_list {l : Addr} {vs : List Value} (hl : LstX W X l vs) (hz : vs.length ≤ 1000) : Src prog w A W X (.ref l) (· = vs) := fun s S R h =>
  collect_list (S.lst hl) (h _ _ _ (fun b o q => by
    have hlt : b < s.heap.objs.size := Heap.lt_size q
    rw [Heap.get?_update_ne _ _ _ _ (Nat.ne_of_lt hlt), Heap.get?_push_ne _ _ _ (Nat.ne_of_lt hlt)]
    exact q) rfl) (by rw [sizeLine_eq]; omega)
theorem src_dct {d : Addr} {kvs : List (Int × Value)} (hh : A.handled = none) (hd : DctX prog w W X d kvs) (hz : kvs.length ≤ 1000) : Src prog w A W X (.ref d) (fun vs => IntsAre vs (kvs.map (·.1))) := fun s S R h => by
  obtain ⟨ep, hA⟩ := (S.dct hd).dictAt
  refine kdu_collect (kdl_dict (knd := intKind prog w) (kvs := kvs) (ep := ep) hd.1) hh hA (by rw [sizeLine_eq]; omega) fun h' tk acc hk hacc => h h' tk _ hk ?_
  have hl : acc.toList.length = kvs.length := by rw [Array.length_toList]; exact hacc.1
  have key : ∀ (vs : List Value) (kvs : List (Int × Value)), vs.length = kvs.length → (∀ (j : Nat) (v : Value), vs[j]? = some v → ∃ k x, kvs[j]? = some (k, x) ∧ (intKind prog w).is k v = true) → IntsAre vs (kvs.map (·.1)) := by
    intro vs
    induction vs with
    | nil => intro kvs hl _; cases kvs with | nil => exact .nil | cons a b => simp at hl
    | cons v vs ih =>
      intro kvs hl hv
      cases kvs with
      | nil => simp at hl
      | cons kv kvs =>
        refine und fun Gq hGq => ?_
        obtain ⟨k, x, e, hk⟩ := hv 0 v rfl
        refine hGq ?_
        clear hGq Gq
        simp at e
        subst e
        have hk : Value.isInt k v = true := hk
        match v, hk with
        | .int i t, hk =>
          obtain rfl : i = k := by simpa [Value.isInt] using hk
          exact .cons _ t (ih kvs (by simpa using hl) fun j u hu => by simpa using hv (j + 1) u (by simpa using hu))
  exact key _ _ hl fun j v e => hacc.2 j v (by rw [← Array.getElem?_toList]; exact e)
theorem src_range {r : Addr} {a b : Int} {n : Nat} (hh : A.handled = none) (hr : RngW W r a b) (hs : Builtin.Range.small a b 1 = true) (hn : Builtin.Range.rangeSize a b 1 = n) (hz : n ≤ 1000) : Src prog w A W X (.ref r) (fun vs => IntsAre vs ((List.range n).map fun (i : Nat) => a + (i : Int))) := fun s S R h => by
  refine und fun Gq hGq => ?_
  obtain ⟨t, u, v, e⟩ := hr
  refine hGq ?_
  clear hGq Gq
  have hr' : IsRange s.heap r a b 1 t u v := S.w _ _ e
  unfold collect
  refine wpAny_bind (wpAny_runValue (codeAny_builtin entry_proto_collect' ?_))
  rw [Around.under_plainId PySem.F.plain_proto_collect _]
  show wpAny _ A.in1 (newList [] >>= fun l => again (.builtin "list.__iadd__" ⟨[l, .ref r], []⟩)) _ _ s
  refine wpAny_bind (wpAny_newObj_type ?_)
  refine wpAny_pure ⟨plainId_quiet PySem.F.plain_list_iadd _, codeAny_builtin entry_list_iadd' ?_⟩
  rw [Around.under_plainId PySem.F.plain_list_iadd _]
  have hS₁ : (s.heap.push { cls := .type "list", data := .seq ([] : List Value).toArray }).get? s.heap.objs.size = some { cls := .type "list", data := .seq #[] } := Heap.get?_push_size _ rfl
  show wpAny _ A.in1 (Builtin.List.listExtendWith (.ref s.heap.objs.size) (.ref r) (.ref s.heap.objs.size)) _ _ _
  have key := wpAny_extend_range (prog := prog) (w := w) (A := A) (s := { s with heap := s.heap.push { cls := .type "list", data := .seq ([] : List Value).toArray } })
    (R := fun (q : Result) (s' : Shared) => ∃ (h' : Heap) (tk : Nat) (acc' : Array Value) (c' : Nat), q = .ok (.ret (.ref s.heap.objs.size)) ∧ s' = { s with heap := h', toks := tk } ∧
      (∀ b o, s.heap.get? b = some o → h'.get? b = some o) ∧ h'.get? s.heap.objs.size = some { cls := .type "list", dict := none, data := .seq acc' c', slots := #[] } ∧ ItemsOf (fun i v => ∃ t, v = .int (a + i * 1) t) acc' n)
    hh (Heap.get?_push_of_some _ hr') hs hn (by omega) s.heap.objs.size (.ref s.heap.objs.size) 0 hS₁
    (fun h' tk acc' c' hk hS' hacc => ⟨h', tk, acc', c', rfl, rfl, fun b o e => hk b o (Nat.ne_of_lt (Heap.lt_size e)) (Heap.get?_push_of_some _ e), hS', hacc⟩)
  have fin : ∀ (h' : Heap) (tk : Nat) (acc : Array Value), (∀ b o, s.heap.get? b = some o → h'.get? b = some o) → ItemsOf (fun i v => ∃ t, v = .int (a + i * 1) t) acc n → R acc.toList { s with heap := h', toks := tk } := fun h' tk acc hk hacc => h h' tk _ hk (by
    have hsz : acc.toList.length = n := by rw [Array.length_toList]; exact hacc.1
    rw [← hsz]
    exact ints_of_get acc.toList (fun i => a + (i : Int)) fun i v hv => by
      have := hacc.2 i v (by simpa using hv)
      simpa using this)
  refine wpAny_mono key (fun fin' s' x => ?_) fun e s' x => ?_
  · cases fin' with
    | done f =>
      refine und fun Gq hGq => ?_
      obtain ⟨h', tk, acc', c', e, rfl, hk, hS', hacc⟩ := x
      refine hGq ?_
      clear hGq Gq
      cases e
      show wpAny _ A (load s.heap.objs.size >>= _) _ _ _
      refine wpAny_bind (wpAny_load hS' ?_)
      exact wpAny_pure (fin h' tk acc' hk hacc)
    | again c₁ =>
      refine ⟨x.1, codeAny_mono x.2 fun q s₂ y => ?_⟩
      refine und fun Gq hGq => ?_
      obtain ⟨h', tk, acc', c', rfl, rfl, hk, hS', hacc⟩ := y
      refine hGq ?_
      clear hGq Gq
      show wpAny _ A (load s.heap.objs.size >>= _) _ _ _
      refine wpAny_bind (wpAny_load hS' ?_)
      exact wpAny_pure (fin h' tk acc' hk hacc)
  · obtain ⟨_, _, _, _, e', _⟩ := x
    cases e'

/-- sorted -/
theorem ca_sorted {v : Value} {kw : List (Str × Value)} {P : List Value → Prop} {Q : Value → Vm → Wd → Led → Prop} (ha1 : argsOk "sorted" ⟨[v], kw⟩) (ha2 : ∀ x, argsOk "list.sort" ⟨[.ref x], kw⟩) (hsrc : Src prog w A.in1 W X v P) (hz : ∀ vs, P vs → vs.length ≤ 1000)
    (h : ∀ D vs, P vs → W D = none → D ∉ adr X → ∀ s, Cur env m g W ((D, lo vs 0) :: X) s → wpAny (model prog w) A.in1.in1 (Builtin.«list.sort» ⟨[.ref D], kw⟩) (fun fin s' => fin = .done (.ret .none) ∧ ∃ W' X', Cur env m g W' X' s' ∧ Q (.ref D) m W' X') no s) :
    Tr prog w A env g m W X (call (.builtin "sorted") [v] kw) Q := .mk fun s C => by
  refine call_function_entry_kw kind_sorted plain_sorted entry_sorted ha1 ?_
  unfold Builtin.«sorted»
  refine wpAny_bind (m := checkCount "sorted" 1 1 _) (wpAny_pure ?_)
  refine wpAny_bind (hsrc s C.adv.st _ fun h' tk vs hk hp => ?_)
  have C1 := (C.keep hk tk).push (lo vs 0)
  have nd := C1.adv.st.nd
  rw [adr_cons] at nd
  refine wpAny_bind (wpAny_newList ?_ (by have := hz vs hp; rw [sizeLine_eq]; omega))
  have hoL := C1.adv.st.x _ _ List.mem_cons_self
  refine wpAny_bind (wpAny_holding (wpAny_call_entry_kw slot_list_sort ⟨_, hoL, rfl⟩ entry_list_sort ?_ (ha2 _)))
  refine wpAny_mono (h _ vs hp (C1.adv.st.xw _ _ List.mem_cons_self) (List.nodup_cons.mp nd).1 _ C1) (fun fin s' hq => ?_) fun _ _ e => e.elim
  refine und fun Gq hGq => ?_
  obtain ⟨rfl, W', X', C', q⟩ := hq
  refine hGq ?_
  clear hGq Gq
  exact ⟨_, rfl, wpAny_pure ⟨_, rfl, m, W', X', C', q⟩⟩
end
end
section -- Lz
/-! what comes out, in plain lists -/
theorem ss_pairwise {f pos : Keyed → Int} {arr : Array Keyed} (h : SS f pos arr arr.size) : arr.toList.Pairwise fun x y => f x < f y ∨ (f x = f y ∧ pos x < pos y) := by
  rw [List.pairwise_iff_getElem]
  intro i j hi hj hij
  have hi' : i < arr.size := by simpa using hi
  have hj' : j < arr.size := by simpa using hj
  have := h i j hij hj'
  unfold FV at this
  rw [getElem?_pos arr i hi', getElem?_pos arr j hj'] at this
  simpa using this
noncomputable def dec2 (W : Wd) : Value → Int × Int
  | .ref a => match W a with
    | some o => match o.data with
      | .seq xs _ => match xs.toList with
        | [.int c _, .int s _] => (c, s)
        | _ => (0, 0)
      | _ => (0, 0)
    | none => (0, 0)
  | _ => (0, 0)
theorem dec2_of {W : Wd} {v : Value} {p : Int × Int} (h : Tup2 W v p) : dec2 W v = p := by
  refine und fun Gq hGq => ?_
  obtain ⟨a, t, u, rfl, h⟩ := h
  refine hGq ?_
  clear hGq Gq
  unfold dec2
  simp only [h]
theorem all2_map {α β : Type} {R : α → β → Prop} (φ : α → β) (h : ∀ a b, R a b → φ a = b) : ∀ {as : List α} {bs : List β}, All2 R as bs → as.map φ = bs
  | _, _, .nil => rfl
  | _, _, .cons x r => by rw [List.map_cons, h _ _ x, all2_map φ h r]
theorem all2_of_map {α β : Type} {R : α → β → Prop} (φ : α → β) : ∀ {as : List α}, (∀ a ∈ as, R a (φ a)) → All2 R as (as.map φ)
  | [], _ => .nil
  | a :: as, h => .cons (h a List.mem_cons_self) (all2_of_map φ fun x hx => h x (List.mem_cons_of_mem _ hx))
theorem all2_mem {α β : Type} {R : α → β → Prop} : ∀ {as : List α} {bs : List β} {a : α}, All2 R as bs → a ∈ as → ∃ b ∈ bs, R a b
  | _, _, _, .nil, h => nomatch h
  | _, _, _, .cons (b := b) x r, h => by
    rcases List.mem_cons.mp h with rfl | h
    · exact ⟨b, List.mem_cons_self, x⟩
    · obtain ⟨b', hb, hr⟩ := all2_mem r h
      exact ⟨b', List.mem_cons_of_mem _ hb, hr⟩
theorem zip_self_mem {vs : List Value} {p : Value × Value} (h : p ∈ vs.zip vs) : p.1 = p.2 ∧ p.1 ∈ vs := by
  obtain ⟨i, hi⟩ := List.mem_iff_getElem?.mp h
  rw [List.getElem?_zip_eq_some] at hi
  obtain ⟨h1, h2⟩ := hi
  rw [h1] at h2
  exact ⟨Option.some.inj h2, List.mem_of_getElem? h1⟩

section
variable {prog : Program} {w : World} {A : Around} {env : Env} {g : Org} {m : Vm} {W : Wd} {X : Led} {s : Shared}

theorem eqBool_int {a b : Int} {t u : Tok} {Q : Bool → Shared → Prop} {E : Value → Shared → Prop} (h : Q (a == b) s) : wpAny (model prog w) A (eqBool (.int a t) (.int b u)) Q E s := wpAny_eqBool_int h

/-- sorted, a list of pairs -/
theorem ca_sortT {l : Addr} {vs : List Value} {ps : List (Int × Int)} {b : Int} {Q : Value → Vm → Wd → Led → Prop} (hl : LstW W l vs) (hA : All2 (Tup2 W) vs ps) (h64 : vs.length < 64) (hps : ∀ (i : Nat) (p : Int × Int), ps[i]? = some p → p.2 = b + (i : Int)) (hb : 0 ≤ b) (hb2 : b ≤ 2000)
    (h : ∀ r out qs W', LstW W' r out → All2 (Tup2 W') out qs → qs.Perm ps → qs.Pairwise (fun x y => x.1 < y.1 ∨ (x.1 = y.1 ∧ x.2 < y.2)) → Le W W' → Q (.ref r) m W' X) : Tr prog w A env g m W X (call (.builtin "sorted") [.ref l]) Q := by
  refine Tr.postF (ca_sorted (kw := []) (P := fun us => us = vs) (args_sorted1 _) (fun _ => args_list_sort _) (src_list hl.x (by omega)) (fun us e => by rw [e]; omega) fun D vs' e hD hD' s C => ?_)
  subst e
  have hlen := hA.length
  let f : Keyed → Int := fun p => (dec2 W p.1).1 * 4096 + (dec2 W p.1).2
  let pos : Keyed → Int := fun p => (dec2 W p.1).2 - b
  have hdec : ∀ i v, vs'[i]? = some v → ∃ p, ps[i]? = some p ∧ Tup2 W v p := fun i v hv => hA.get' i v hv
  have hbound : ∀ v ∈ vs', 0 ≤ (dec2 W v).2 ∧ (dec2 W v).2 < 4096 := fun v hv => by
    refine und fun Gq hGq => ?_
    obtain ⟨i, hi⟩ := List.mem_iff_getElem?.mp hv
    obtain ⟨p, hp, ht⟩ := hdec i v hi
    refine hGq ?_
    clear hGq Gq
    rw [dec2_of ht, hps i p hp]
    have : i < vs'.length := (List.getElem?_eq_some_iff.mp hi).1
    omega
  have hpl : (pairsOf vs').toList = vs'.zip vs' := pairsOf_toList vs'
  refine sort_plain (f := f) (pos := pos) (kd := tuples' true) C h64 (fun s' S h2 R hR => ?_) (fun s' S => ?_) (fun i _ hi => ?_) fun o' out s' C' ho hso => ?_
  · -- kind
    have key : ∀ (vs : List Value) (ps : List (Int × Int)), All2 (Tup2 W) vs ps → ∃ fs, KatTups s'.heap vs fs ∧ fs.length = vs.length ∧ ∀ v ∈ fs, ∃ i t, v = Value.int i t := by
      intro vs ps hA
      induction hA with
      | nil => exact ⟨[], KatTups.nil, rfl, nofun⟩
      | cons h r ih =>
        refine und fun Gq hGq => ?_
        obtain ⟨fs, h1, h2, h3⟩ := ih
        obtain ⟨a, t, u, rfl, ha⟩ := h
        refine hGq ?_
        clear hGq Gq
        refine ⟨_ :: fs, KatTups.cons (S.w _ _ ha) rfl rfl (f := .int _ t) rfl h1, by simp [h2], fun v hv => ?_⟩
        rcases List.mem_cons.mp hv with rfl | hv
        · exact ⟨_, _, rfl⟩
        · exact h3 v hv
    refine und fun Gq hGq => ?_
    obtain ⟨fs, k1, k2, k3⟩ := key _ _ hA
    refine hGq ?_
    clear hGq Gq
    refine kat_kind (T := .type "int") k1 (by omega) (fun v hv => ?_) (by decide) hR
    obtain ⟨i, t, rfl⟩ := k3 v hv
    exact Looks.of_pure rfl
  · -- comparison
    intro st i j R hB hi hj hq
    have at' : ∀ {i : Nat}, i < (pairsOf vs').size → ∃ a c sp t u y, (arrOf st)[i]? = some (.ref a, y) ∧ W a = some { cls := .type "tuple", data := .seq ([.int c t, .int sp u] : List Value).toArray } ∧ FV f (arrOf st) i = c * 4096 + sp ∧ 0 ≤ sp ∧ sp < 4096 := fun {i} hi => by
      have hi' : i < (arrOf st).size := by rw [hB.size]; exact hi
      have hm : (arrOf st)[i] ∈ (pairsOf vs').toList := (Array.perm_iff_toList_perm.mp hB.perm).mem_iff.mp (by simp)
      rw [hpl] at hm
      refine und fun Gq hGq => ?_
      obtain ⟨e1, e2⟩ := zip_self_mem hm
      obtain ⟨p, hp, ht⟩ := all2_mem hA e2
      have hbd := hbound _ e2
      have hd := dec2_of ht
      obtain ⟨a, t, u, ea, hw⟩ := ht
      refine hGq ?_
      clear hGq Gq
      refine ⟨a, p.1, p.2, t, u, (arrOf st)[i].2, ?_, hw, ?_, ?_, ?_⟩
      · rw [getElem?_pos _ i hi']
        congr 1
        exact Prod.ext ea rfl
      · unfold FV
        rw [getElem?_pos _ i hi']
        show (dec2 W (arrOf st)[i].1).1 * 4096 + (dec2 W (arrOf st)[i].1).2 = _
        rw [hd]
      · rw [hd] at hbd; exact hbd.1
      · rw [hd] at hbd; exact hbd.2
    refine und fun Gq hGq => ?_
    obtain ⟨a1, c1, s1, t1, u1, y1, q1, w1, f1, b1, b1'⟩ := at' hi
    obtain ⟨a2, c2, s2, t2, u2, y2, q2, w2, f2, b2, b2'⟩ := at' hj
    refine hGq ?_
    clear hGq Gq
    rw [f1, f2] at hq
    have hlt : wpAny (model prog w) A.in1.in1 (keyLt' (tuples' true) (.ref a1) (.ref a2)) (fun r s'' => s'' = s' ∧ r = decide (c1 * 4096 + s1 < c2 * 4096 + s2)) (fun _ _ => False) s' := by
      refine kat_lt (S.w _ _ w1) rfl (S.w _ _ w2) rfl ?_
      refine kat_cons (eqBool_int ?_)
      by_cases hc : c1 = c2
      · subst hc
        rw [beq_self_eq_true]
        refine kat_yes (kat_cons (eqBool_int ?_))
        by_cases hs : s1 = s2
        · subst hs
          rw [beq_self_eq_true]
          exact kat_yes (kat_nil ⟨rfl, by simp⟩)
        · rw [beq_eq_false_iff_ne.mpr hs]
          refine kat_no (kat_one _ _ (PyProof.Rows.lt_int ?_))
          exact ⟨rfl, by simp⟩
      · rw [beq_eq_false_iff_ne.mpr hc]
        refine kat_no (oneLt_int ⟨rfl, ?_⟩)
        rw [decide_eq_decide]
        omega
    rw [ltAt'_eq]
    refine wpS_bind (wpS_get ?_)
    show wpS _ _ _ _ (do let x ← elem' (arrOf st) i; let y ← elem' (arrOf st) j; lt' x y) R st
    rw [elem'_eq, elem'_eq, q1, q2]
    refine wpS_bind (wpS_pure (wpS_bind (wpS_pure ?_)))
    rw [lt'_eq]
    refine wpS_bind (wpS_get ?_)
    rw [hB.kind]
    refine wpS_bind (wpS_lift (wpAny_attempt (wpAny_mono hlt (fun r s'' hr => ?_) fun _ _ e => e.elim)))
    obtain ⟨rfl, rfl⟩ := hr
    exact ⟨rfl, wpS_pure hq⟩
  · -- where it stood
    have hi' : i < vs'.length := by rwa [pairsOf_size] at hi
    obtain ⟨p, hp, ht⟩ := hdec i vs'[i] (by simp)
    unfold FV
    have : (pairsOf vs')[i]? = some (vs'[i], vs'[i]) := by
      rw [← Array.getElem?_toList, hpl, List.getElem?_zip_eq_some]; simp
    rw [this]
    show (dec2 W vs'[i]).2 - b = i
    rw [dec2_of ht, hps i p hp]; omega
  · obtain ⟨arr, hperm, hss, rfl⟩ := hso
    refine ⟨rfl, W, (D, o') :: X, C', D, o', X, rfl, fun W'' hw le => ?_⟩
    have hpt := Array.perm_iff_toList_perm.mp hperm
    rw [hpl] at hpt
    rw [← hperm.size_eq] at hss
    have hpw := ss_pairwise hss
    have hmem : ∀ x ∈ arr.toList, x.1 = x.2 ∧ x.1 ∈ vs' := fun x hx => zip_self_mem (hpt.mem_iff.mp hx)
    have htup : ∀ v ∈ vs', Tup2 W v (dec2 W v) := fun v hv => by
      obtain ⟨p, _, ht⟩ := all2_mem hA hv
      rw [dec2_of ht]; exact ht
    have hout : (arr.map (·.2)).toList = arr.toList.map (·.1) := by
      rw [Array.toList_map]
      exact List.map_congr_left fun x hx => (hmem x hx).1.symm
    refine h D _ ((arr.toList.map (·.1)).map (dec2 W)) W'' ⟨o', hw, ho.lst⟩ ?_ ?_ ?_ le
    · rw [hout]
      refine (all2_of_map (dec2 W) fun v hv => ?_)
      obtain ⟨x, hx, rfl⟩ := List.mem_map.mp hv
      exact (htup _ (hmem x hx).2).up le
    · have h1 := (hpt.map (·.1)).map (dec2 W)
      rw [List.map_fst_zip (Nat.le_refl _), all2_map (dec2 W) (fun _ _ => dec2_of) hA] at h1
      exact h1
    · rw [List.pairwise_map, List.pairwise_map]
      refine hpw.imp_of_mem fun {x y} hx hy hr => ?_
      have b1 := hbound _ (hmem x hx).2
      have b2 := hbound _ (hmem y hy).2
      have hr' : (dec2 W x.1).1 * 4096 + (dec2 W x.1).2 < (dec2 W y.1).1 * 4096 + (dec2 W y.1).2 ∨ ((dec2 W x.1).1 * 4096 + (dec2 W x.1).2 = (dec2 W y.1).1 * 4096 + (dec2 W y.1).2 ∧ (dec2 W x.1).2 - b < (dec2 W y.1).2 - b) := hr
      omega

theorem cmp_ints {a₀ : Array Keyed} (hik : PyProof.Rows.IntKeys a₀) : Cmp prog w A no s a₀ oneType' (fun p => numOf p.1) := fun {st i j Q} hB hi hj hq => by
  have at' : ∀ {i : Nat}, i < a₀.size → ∃ t y, (arrOf st)[i]? = some (.int (FV (fun p => numOf p.1) (arrOf st) i) t, y) := fun {i} hi => by
    have hi' : i < (arrOf st).size := by rw [hB.size]; exact hi
    have hm : (arrOf st)[i] ∈ a₀.toList := (Array.perm_iff_toList_perm.mp hB.perm).mem_iff.mp (by simp)
    obtain ⟨n, t, hn⟩ := hik _ hm
    have e : (arrOf st)[i]? = some (arrOf st)[i] := getElem?_pos _ i hi'
    have e2 : (arrOf st)[i] = (.int n t, (arrOf st)[i].2) := Prod.ext hn rfl
    refine ⟨t, (arrOf st)[i].2, ?_⟩
    unfold FV
    rw [e]
    simp only
    rw [show numOf (arrOf st)[i].1 = n by rw [hn]; rfl]
    rw [← e2]
  refine und fun Gq hGq => ?_
  obtain ⟨t1, y1, q1⟩ := at' hi
  obtain ⟨t2, y2, q2⟩ := at' hj
  refine hGq ?_
  clear hGq Gq
  exact wpS_ltAt hB.kind q1 q2 hq
theorem nums_map {vs : List Value} {ns : List Int} (h : IntsAre vs ns) : vs.map numOf = ns := h.nums
theorem ints_mem {vs : List Value} (h : ∀ v ∈ vs, ∃ n t, v = Value.int n t) : IntsAre vs (vs.map numOf) := intsAre_map vs h
/-- sorted, the keys of a dict that stand in order -/
theorem ca_sortI {d : Addr} {kvs : List (Int × Value)} {Q : Value → Vm → Wd → Led → Prop} (hh : A.handled = none) (hd : DctX prog w W X d kvs) (h64 : kvs.length < 64) (ho : (kvs.map (·.1)).Pairwise (· < ·))
    (h : ∀ r out W', LstW W' r out → IntsAre out (kvs.map (·.1)) → Le W W' → Q (.ref r) m W' X) : Tr prog w A env g m W X (call (.builtin "sorted") [.ref d]) Q := by
  refine Tr.postF (ca_sorted (kw := []) (P := fun us => IntsAre us (kvs.map (·.1))) (args_sorted1 _) (fun _ => args_list_sort _) (src_dct (A := A.in1) hh hd (by omega)) (fun us e => by rw [e.length, List.length_map]; omega) fun D vs e hD hD' s C => ?_)
  generalize hks : kvs.map (·.1) = ks at ho e h
  have hkl : ks.length < 64 := by rw [← hks, List.length_map]; exact h64
  have hlen := e.length
  have hnd : ks.Nodup := ho.imp fun h => Int.ne_of_lt h
  refine sort_plain (f := fun p => numOf p.1) (pos := fun p => (ks.idxOf (numOf p.1) : Int)) (kd := oneType') C (by omega) (fun s' S h2 R hR => ?_) (fun s' S => cmp_ints e.intKeys) (fun i _ hi => ?_) fun o' out s' C' ho' hso => ?_
  · rw [ksk_kind (keys := vs.toArray) (kz := ks) (by rw [List.toList_toArray]; exact e) (by rw [List.size_toArray]; exact h2)]
    exact wpAny_pure hR
  · have hi' : i < vs.length := by rwa [pairsOf_size] at hi
    have hik : i < ks.length := by omega
    obtain ⟨t, ht⟩ := e.get i ks[i] (by simp)
    unfold FV
    have : (pairsOf vs)[i]? = some (.int ks[i] t, .int ks[i] t) := by
      rw [← Array.getElem?_toList, pairsOf_toList, List.getElem?_zip_eq_some]
      exact ⟨ht, ht⟩
    rw [this]
    show ((ks.idxOf ks[i] : Nat) : Int) = i
    rw [hnd.idxOf_getElem i hik]
  · obtain ⟨arr, hperm, hss, rfl⟩ := hso
    refine ⟨rfl, W, (D, o') :: X, C', D, o', X, rfl, fun W'' hw le => ?_⟩
    have hpt := Array.perm_iff_toList_perm.mp hperm
    rw [pairsOf_toList] at hpt
    rw [← hperm.size_eq] at hss
    have hpw := ss_pairwise hss
    have hmem : ∀ x ∈ arr.toList, x.1 = x.2 ∧ x.1 ∈ vs := fun x hx => zip_self_mem (hpt.mem_iff.mp hx)
    have hout : (arr.map (·.2)).toList = arr.toList.map (·.1) := by
      rw [Array.toList_map]
      exact List.map_congr_left fun x hx => (hmem x hx).1.symm
    refine h D _ W'' ⟨o', hw, ho'.lst⟩ ?_ le
    have hI : IntsAre (arr.toList.map (·.1)) ((arr.toList.map (·.1)).map numOf) := ints_mem fun v hv => by
      obtain ⟨x, hx, rfl⟩ := List.mem_map.mp hv
      exact e.all _ (hmem x hx).2
    have hks' : (arr.toList.map (·.1)).map numOf = ks := by
      refine ksm_same ?_ ?_ (ho.imp fun h => Int.le_of_lt h)
      · have h1 := (hpt.map (·.1)).map numOf
        rw [List.map_fst_zip (Nat.le_refl _), nums_map e] at h1
        exact h1
      · rw [List.pairwise_map, List.pairwise_map]
        refine hpw.imp fun {x y} hr => ?_
        have hr' : numOf x.1 < numOf y.1 ∨ (numOf x.1 = numOf y.1 ∧ _) := hr
        omega
    rw [hks'] at hI
    rw [hout]; exact hI
/-- sorted(range(n), key=q) -/
theorem ca_sortK {r q : Addr} {n : Nat} {kz : List Int} {Q : Value → Vm → Wd → Led → Prop} (hh : A.handled = none) (hr : RngW W r 0 n) (h64 : n < 64) (hlen : kz.length = n)
    (hcall : ∀ (i : Nat) (t : Tok) (k : Int), kz[i]? = some k → ∀ W' X', Le W W' → (∀ p ∈ X, p ∈ X') → Tr prog w A.in1.in1 env g m W' X' (call (.ref q) [.int i t]) fun r m₂ W₂ X₂ => m₂ = m ∧ Le W' W₂ ∧ (∃ t, r = .int k t) ∧ X₂ = X')
    (h : ∀ r out os W', LstW W' r out → IntsAre out os → os.Perm ((List.range n).map fun (i : Nat) => (i : Int)) → os.Pairwise (fun x y => kz.getD x.toNat 0 < kz.getD y.toNat 0 ∨ (kz.getD x.toNat 0 = kz.getD y.toNat 0 ∧ x < y)) → Le W W' → Q (.ref r) m W' X) :
    Tr prog w A env g m W X (call (.builtin "sorted") [.ref r] [(Str.ofString "key", .ref q)]) Q := by
  have hsz : Builtin.Range.rangeSize 0 (n : Int) 1 = (n : Int) := by rw [rangeSize_nat]; simp
  refine Tr.postF (ca_sorted (P := fun us => IntsAre us ((List.range n).map fun (i : Nat) => 0 + (i : Int))) (ksk_s1 _ _) (fun _ => ksk_l1 _ _) (src_range (A := A.in1) hh hr (small_one (by omega) (by omega) (by omega) (by omega)) hsz (by omega)) (fun us e => by rw [e.length]; simp; omega) fun D vs e hD hD' s C => ?_)
  have e : IntsAre vs ((List.range n).map fun (i : Nat) => (i : Int)) := by simpa using e
  have hvl : vs.length = n := by rw [e.length]; simp
  have hget : ∀ (i : Nat) (v : Value), vs[i]? = some v → ∃ t, v = Value.int (i : Int) t := fun i v hv => by
    have hi : i < vs.length := (List.getElem?_eq_some_iff.mp hv).1
    obtain ⟨t, ht⟩ := e.get i (i : Int) (by rw [List.getElem?_map, List.getElem?_range (by omega)]; rfl)
    rw [ht] at hv
    exact ⟨t, (Option.some.inj hv).symm⟩
  rw [ksk_t1]
  refine sort_key (pos := fun p => numOf p.2) (kz := kz) C (by omega) (by omega) (fun i v k hv hk W' X' le hx => ?_) (fun keys hk i _ hi => ?_) fun o' out W' s' keys le C' ho' hk hso => ?_
  · obtain ⟨t, rfl⟩ := hget i v hv
    exact hcall i t k hk W' X' le hx
  · have hkl := hk.length
    have hi' : i < n := by
      have : (keys.toArray.zip vs.toArray).size = n := by rw [Array.size_zip]; simp; omega
      omega
    unfold FV
    obtain ⟨t, ht⟩ := hget i vs[i] (by simp)
    have : (keys.toArray.zip vs.toArray)[i]? = some (keys[i]'(by omega), vs[i]) := by
      rw [← Array.getElem?_toList, ksk_zip, List.getElem?_zip_eq_some]
      simp
    rw [this]
    show numOf vs[i] = i
    rw [ht]; rfl
  · obtain ⟨arr, hperm, hss, rfl⟩ := hso
    refine ⟨rfl, W', (D, o') :: X, C', D, o', X, rfl, fun W'' hw le' => ?_⟩
    have hkl := hk.length
    have hpt := Array.perm_iff_toList_perm.mp hperm
    rw [ksk_zip] at hpt
    rw [← hperm.size_eq] at hss
    have hpw := ss_pairwise hss
    have hmem : ∀ x ∈ arr.toList, x.2 ∈ vs ∧ numOf x.1 = kz.getD (numOf x.2).toNat 0 := fun x hx => by
      have hx' := hpt.mem_iff.mp hx
      obtain ⟨i, hi⟩ := List.mem_iff_getElem?.mp hx'
      rw [List.getElem?_zip_eq_some] at hi
      obtain ⟨h1, h2⟩ := hi
      refine ⟨List.mem_of_getElem? h2, ?_⟩
      obtain ⟨t, ht⟩ := hget i _ h2
      have hi' : i < kz.length := by
        have : i < keys.length := (List.getElem?_eq_some_iff.mp h1).1
        omega
      obtain ⟨t', ht'⟩ := hk.get i kz[i] (by simp)
      have h1' : keys[i]? = some x.1 := by simpa using h1
      rw [ht'] at h1'
      rw [ht, ← Option.some.inj h1']
      show kz[i] = kz.getD ((i : Int)).toNat 0
      simp [List.getD_eq_getElem?_getD, hi']
    have hout : (arr.map (·.2)).toList = arr.toList.map (·.2) := by rw [Array.toList_map]
    refine h D _ ((arr.toList.map (·.2)).map numOf) W'' ⟨o', hw, ho'.lst⟩ ?_ ?_ ?_ (le.trans le')
    · rw [hout]
      refine ints_mem fun v hv => ?_
      obtain ⟨x, hx, rfl⟩ := List.mem_map.mp hv
      exact e.all _ (hmem x hx).1
    · have h1 := (hpt.map (·.2)).map numOf
      rw [List.map_snd_zip (by simp; omega), nums_map e] at h1
      exact h1
    · rw [List.pairwise_map, List.pairwise_map]
      refine hpw.imp_of_mem fun {x y} hx hy hr => ?_
      have hr' : numOf x.1 < numOf y.1 ∨ (numOf x.1 = numOf y.1 ∧ numOf x.2 < numOf y.2) := hr
      rw [(hmem x hx).2, (hmem y hy).2] at hr'
      exact hr'
end
end
section -- La
section
variable {prog : Program} {w : World} {A : Around} {E : Value → Shared → Prop} {s : Shared}

theorem keys_miss : typeLookup (.type "list") "keys" = pure none := am_miss_of_fast (by decide +kernel)
/-- a list has no keys -/
theorem ga_miss {l : Addr} {vs : List Value} {o : Obj} {Q : Option Value → Shared → Prop} (hA : A.handled = none) (ho : s.heap.get? l = some o) (hp : PlO o vs)
    (h : ∀ h' tk, (∀ b o, s.heap.get? b = some o → h'.get? b = some o) → Q none { s with heap := h', toks := tk }) : wpAny (model prog w) A (getAttr? (.ref l) "keys") Q E s := by
  refine und fun Gq hGq => ?_
  obtain ⟨n, rfl⟩ := hp
  obtain ⟨hp, g, d, tk, os⟩ := s
  refine hGq ?_
  clear hGq Gq
  have hT : ∀ tk', (⟨hp, g, d, tk', os⟩ : Shared).TypeIs (.ref l) "list" := fun _ => ⟨_, ho, rfl⟩
  have f1 := sub_AttributeError
  have f3 := F.slot_list_getattribute.lookup
  have f4 := F.slot_list_getattribute.bind (.ref l)
  have f5 := am_list_getattr_none
  unfold getAttr? getAttrBy? getAttrBy
  repeat (any_goals (first | assumption | exact hT _ | ((with_reducible show wpAny _ _ (call (Value.builtin "list.__getattribute__") _ _) _ _ _); refine call_meets F.slot_list_getattribute (hT _) am_entry_list_getattribute (F.args_list_getattribute_2 _ _) (meets_getattribute_miss_list l vs.toArray n #[] "keys" _ keys_miss (by decide) (by rw [sizeLine_eq]; decide)) ⟨ho, hA, fun h' tk' e hx' => ?_⟩) | wp_step))
  obtain ⟨t', u', he⟩ := hx'.there
  show wpAny _ _ (getattributeRaised _ _ _ _ _ _ _) _ _ _
  unfold getattributeRaised
  repeat (any_goals (first | assumption | wp_step))
  exact h _ _ hx'.keeps
end

section
variable {prog : Program} {w : World} {A : Around} {env : Env} {g : Org} {m : Vm} {W : Wd} {X : Led} {s : Shared}
theorem plain_dul : plainId "dict.update.loop" = true := by decide +kernel
theorem entry_dul : entryFor table "dict.update.loop" = some Builtin.«dict.update.loop» := entryFor_of_tree (by kernel_rfl)
theorem args_dict_init_2' (a b : Value) : argsOk "dict.__init__" ⟨[a, b], []⟩ := F.args_dict_init_2 a b
/-- a pair that stands in the world -/
inductive PairW (W : Wd) (v x y : Value) : Prop
  | mk (a) (h1 : v = .ref a) (h2 : W a = some { cls := .type "tuple", data := .seq ([x, y] : List Value).toArray }) : PairW W v x y
theorem pi_tup {v x y : Value} {Q : List Value → Shared → Prop} {E : Value → Shared → Prop} (S : St W X s.heap) (h : PairW W v x y) (hq : Q [x, y] s) : wpAny (model prog w) A (Builtin.Dict.pairItems v) Q E s := by
  obtain ⟨a, rfl, ha⟩ := h
  have ho := S.w _ _ ha
  unfold Builtin.Dict.pairItems
  refine wpAny_bind (wpAny_typeOf (T := "tuple") ⟨_, ho, rfl⟩ ?_)
  rw [if_pos (by decide)]
  refine wpAny_bind (wpAny_seqItems ho rfl ?_)
  exact wpAny_pure hq
theorem dul_loop {D I : Addr} {J : Nat → Obj → Prop} {vs : List Value} {fp wr : List Addr} {SI : Nat → Heap → Prop} {R : Result → Shared → Prop} {px : Nat → Value × Value}
    (wk : Walks prog w A.in1 I fp wr vs.length (fun i v => vs[i]? = some v) SI) (hDf : D ∉ fp)
    (sd : ∀ o, Side env g W ((D, o) :: X) (fun b => b ∈ wr)) (hp : ∀ (i : Nat) v, vs[i]? = some v → PairW W v (px i).1 (px i).2)
    (step : ∀ (i : Nat) o s', i < vs.length → St W ((D, o) :: X) s'.heap → J i o → ∀ Q : Unit → Shared → Prop, (∀ o' h' tk, Heap.SameBut D s'.heap h' → h'.get? D = some o' → J (i + 1) o' → Q () { s' with heap := h', toks := tk }) →
      wpAny (model prog w) A.in1 (dictSet D (px i).1 (px i).2) Q no s')
    (fin : ∀ o s', Cur env m g W ((D, o) :: X) s' → J vs.length o → R (.ok (.ret .none)) s') (k : Nat) :
    ∀ (i : Nat) (t : Tok) (o : Obj) (s : Shared), vs.length - i = k → i ≤ vs.length → Cur env m g W ((D, o) :: X) s → SI i s.heap → J i o →
      wpAny (model prog w) A.in1 (Builtin.«dict.update.loop» ⟨[.ref D, .ref I, .int i t, .none], []⟩) (fun f s' => match f with | .done f => R (.ok f) s' | .again c' => c'.quiet = true ∧ codeAny (model prog w) A c' R s') no s := by
  induction k with
  | zero =>
    intro i t o s hk hi C si j
    obtain rfl : i = vs.length := by omega
    unfold Builtin.«dict.update.loop»
    refine wpAny_bind (wk.done s _ no si fun h' tk hk' => ?_)
    refine wpAny_bind (m := Builtin.Dict.addKeywords D []) (wpAny_pure ?_)
    exact wpAny_pure (fin o _ (C.side (sd o) hk') j)
  | succ k ih =>
    intro i t o s hk hi C si j
    have hlt : i < vs.length := by omega
    unfold Builtin.«dict.update.loop»
    refine wpAny_bind (wk.item i s _ no hlt si fun v h' tk pv si' hk' => ?_)
    have C1 : Cur env m g W ((D, o) :: X) { s with heap := h', toks := tk } := C.side (sd o) hk'
    refine wpAny_bind (wpAny_holding (wpAny_bind (wpAny_tryCatch (pi_tup C1.adv.st (hp i v pv) ?_))))
    refine wpAny_holding ?_
    refine step i o _ hlt C1.adv.st j _ fun o' h2 tk2 sb ho' j' => ?_
    have C2 := C1.set sb ho' tk2
    have si2 : SI (i + 1) h2 := wk.frame _ _ _ si' fun b hb ob e => sb.extBut b ob (fun q => hDf (q ▸ hb)) e
    refine wpAny_pure ⟨plainId_quiet plain_dul _, codeAny_builtin entry_dul ?_⟩
    rw [Around.under_plainId plain_dul _]
    have := ih (i + 1) 0 o' _ (by omega) hlt C2 si2 j'
    have e : (rawInt ((i : Int) + 1)) = Value.int ((i + 1 : Nat) : Int) 0 := rfl
    rw [e]
    exact wpAny_mono this (fun f s' z => z) fun _ _ x => x.elim

theorem itr_side {A : Around} {v : Value} {n : Nat} {P : Nat → Value → Prop} {Q : Value → Shared → Prop} (C : Cur env m g W X s) (it : Itr prog w A W X v X n P)
    (h : ∀ I fp wr SI h' tk, Walks prog w A I fp wr n P SI → SI 0 h' → Cur env m g W X { s with heap := h', toks := tk } → (∀ b, W b = none → b ∈ adr X → b ∉ fp) → (∀ X', adr X' = adr X → Side env g W X' (fun b => b ∈ wr)) → Q (.ref I) { s with heap := h', toks := tk }) :
    wpAny (model prog w) A (pyIter v) Q no s := by
  refine wpAny_mono (it.run s C.adv.st) (fun r s₂ h₂ => ?_) fun _ _ x => x
  refine und fun Gq hGq => ?_
  obtain ⟨I, fp, wr, SI, h₂, tk₂, rfl, rfl, wk, si, up, hfp, hwr, live, lo⟩ := h₂
  refine hGq ?_
  clear hGq Gq
  have own : ∀ b, Own env b → (∃ o, s.heap.get? b = some o) ∧ b ∉ adr X := fun b hb => by
    rcases hb with rfl | ⟨x, hx⟩
    · obtain ⟨ml, ⟨o, _, _, e, _⟩, _⟩ := C.fm.loc
      exact ⟨⟨o, e⟩, C.fm.lx⟩
    · obtain ⟨⟨o, e, _⟩, _, c3, _⟩ := C.fm.cel x b hx
      exact ⟨⟨o, e⟩, c3⟩
  refine h I fp wr SI h₂ tk₂ wk si (C.keep up tk₂) (fun b hw hx hb => ?_) fun X' e => ?_
  · rcases hfp b hb with ⟨o, e⟩ | ⟨_, hn, _⟩
    · rw [hw] at e; cases e
    · exact hn hx
  · have hq : ∀ b ∈ wr, b ∉ adr X ∧ (s.heap.get? b = none ∨ b ∈ adr X) := fun b hb => by
      rcases hfp b (wk.sub b hb) with ⟨o, e⟩ | ⟨_, h1, h2⟩
      · rw [hwr b hb] at e; cases e
      · exact ⟨h1, h2⟩
    refine ⟨hwr, fun b hb hm => (hq b hb).1 (e ▸ hm), fun b hb ho => ?_, fun b hb => ?_⟩
    · obtain ⟨⟨o, e⟩, hx⟩ := own b ho
      rcases (hq b hb).2 with hn | hm
      · rw [hn] at e; cases e
      · exact hx hm
    · rcases (hq b hb).2 with hn | hm
      · cases e : g.s.heap.get? b with
        | none => exact .inr rfl
        | some o => exact .inl (Classical.byContradiction fun hx => by rw [C.adv.keep b o e hx] at hn; cases hn)
      · exact absurd hm (hq b hb).1
/-- dict of a list of pairs -/
theorem ca_dict {K : Frag} {l : Addr} {o : Obj} {vs : List Value} {J : Addr → Nat → Obj → Prop} {px : Nat → Value × Value} {Q : Value → Vm → Wd → Led → Prop} (hh : A.handled = none) (G : GW w K W) (hK : ∃ o, K.lookup 2 = some o) (hl : W l = some o) (ho : PlO o vs)
    (hp : ∀ (i : Nat) v, vs[i]? = some v → PairW W v (px i).1 (px i).2) (j0 : ∀ D, (D == sysModules) = false → J D 0 emptyD)
    (step : ∀ D (i : Nat) o s', i < vs.length → St W ((D, o) :: X) s'.heap → J D i o → ∀ Q : Unit → Shared → Prop, (∀ o' h' tk, Heap.SameBut D s'.heap h' → h'.get? D = some o' → J D (i + 1) o' → Q () { s' with heap := h', toks := tk }) →
      wpAny (model prog w) A.in1.in1 (dictSet D (px i).1 (px i).2) Q no s')
    (h : ∀ D o, J D vs.length o → W D = none → D ∉ adr X → Q (.ref D) m W ((D, o) :: X)) : Tr prog w A env g m W X (call (.type "dict") [.ref l]) Q := .mk fun s C => by
  refine callType_codes (Q₁ := fun obj s₁ => obj = .ref s.heap.objs.size ∧ s₁ = { s with heap := s.heap.push emptyD }) F.kt_called_dict (F.kt_typeCall_dict_1 _) F.entry_dict_init (kt_code_dict_new _ ⟨rfl, rfl⟩) ?_
  rintro obj s₁ ⟨rfl, rfl⟩
  have hs := not_sys G C.adv.st hK
  have C1 := C.push emptyD
  generalize s.heap.objs.size = D at hs C1 ⊢
  have hT : ∀ {s' : Shared} {X'}, St W ((D, emptyD) :: X') s'.heap → s'.TypeIs (.ref D) "dict" := fun S => ⟨_, S.x _ _ List.mem_cons_self, rfl⟩
  have nd := C1.adv.st.nd
  rw [adr_cons] at nd
  refine ⟨hT C1.adv.st, F.args_dict_init_2 _ _, ?_⟩
  have ho' := ho
  obtain ⟨n, e⟩ := ho'
  unfold Builtin.«dict.__init__»
  refine wpAny_bind ?_
  unfold Builtin.Dict.selfAndRest
  refine wpAny_bind (wpAny_notOrdered_dict (hT C1.adv.st) ?_)
  show wpAny _ _ (pure (D, [Value.ref l])) _ _ _
  refine wpAny_pure ?_
  show wpAny _ _ (Builtin.Dict.updateFrom "dict.__init__" D (.ref l) [] .none) _ _ _
  unfold Builtin.Dict.updateFrom
  refine wpAny_bind (wpAny_typeOf (T := "list") ⟨_, C1.adv.st.w _ _ hl, by rw [e]⟩ ?_)
  rw [if_pos (by decide)]
  refine wpAny_bind (ga_miss hh (C1.adv.st.w _ _ hl) ho fun h' tk hk => ?_)
  have C2 := C1.keep hk tk
  simp only [Option.isNone_none, if_true]
  refine wpAny_bind (wpAny_rule (wpAny_bind (wpAny_mono (itr_side C2 (itr_list (A := A.in1.in1) hh ⟨o, hl, ho.lst⟩) fun I fp wr SI h3 tk3 wk si C3 hf sd => ?_) (fun _ _ z => z) fun _ _ x => x.elim)))
  refine wpAny_pure ⟨plainId_quiet plain_dul _, codeAny_builtin entry_dul ?_⟩
  rw [Around.under_plainId plain_dul _]
  have hxw := C1.adv.st.xw D _ List.mem_cons_self
  refine wpAny_mono (dul_loop (J := J D) (px := px) wk (hf D hxw (by rw [adr_cons]; exact List.mem_cons_self)) (fun o' => sd _ (by rw [adr_cons, adr_cons])) hp (step D) (fun o' s' C' j => ⟨rfl, _, _, _, C', h D o' j hxw (List.nodup_cons.mp nd).1⟩) _ 0 0 emptyD _ rfl (Nat.zero_le _) C3 si (j0 D hs)) (fun f s' z => z) fun _ _ x => x.elim
end
end
section -- Lb
section
variable {prog : Program} {w : World} {A : Around} {env : Env} {g : Org} {m : Vm} {W : Wd} {X : Led} {s : Shared}
theorem nodup_no {α : Type} {l : List α} {i j : Nat} {x : α} (hn : l.Nodup) (hij : i < j) (h1 : l[i]? = some x) (h2 : l[j]? = some x) : False := by
  obtain ⟨a, e1⟩ := List.getElem?_eq_some_iff.mp h1
  obtain ⟨b, e2⟩ := List.getElem?_eq_some_iff.mp h2
  exact (List.pairwise_iff_getElem.mp hn) i j a b hij (e1.trans e2.symm)
theorem stored_snoc {kvs : List (Int × Value)} {i : Nat} {k : Int} {x : Value} (hn : (kvs.map (·.1)).Nodup) (h : kvs[i]? = some (k, x)) : stored (kvs.take i) k x = kvs.take (i + 1) := by
  rw [List.take_add_one, h]
  refine stored_absent (valueAt_none_of_not_mem fun hm => ?_) x
  refine und fun Gq hGq => ?_
  obtain ⟨p, hp, e⟩ := List.mem_map.mp hm
  obtain ⟨j, hj⟩ := List.mem_iff_getElem?.mp hp
  refine hGq ?_
  clear hGq Gq
  have hji : j < i := by
    have := (List.getElem?_eq_some_iff.mp hj).1
    rw [List.length_take] at this; omega
  rw [List.getElem?_take_of_lt hji] at hj
  have h1 : (kvs.map (·.1))[j]? = some k := by rw [List.getElem?_map, hj, ← e]; rfl
  have h2 : (kvs.map (·.1))[i]? = some k := by rw [List.getElem?_map, h]; rfl
  exact nodup_no hn hji h1 h2
theorem storedH_snoc {xs : List (List Int × Addr × Value)} {i : Nat} {x : List Int × Addr × Value} (hn : (xs.map (·.1)).Nodup) (h : xs[i]? = some x) : storedH (xs.take i) x.1 x.2.1 x.2.2 = xs.take (i + 1) := by
  rw [List.take_add_one, h]
  refine storedH_new ?_ _ _
  unfold atKey
  rw [Option.map_eq_none_iff, List.find?_eq_none]
  intro p hp e
  have e : p.1 = x.1 := by simpa using e
  obtain ⟨j, hj⟩ := List.mem_iff_getElem?.mp hp
  have hji : j < i := by
    have := (List.getElem?_eq_some_iff.mp hj).1
    rw [List.length_take] at this; omega
  rw [List.getElem?_take_of_lt hji] at hj
  have h1 : (xs.map (·.1))[j]? = some x.1 := by rw [List.getElem?_map, hj, ← e]; rfl
  have h2 : (xs.map (·.1))[i]? = some x.1 := by rw [List.getElem?_map, h]; rfl
  exact nodup_no hn hji h1 h2
/-- dict of pairs with int keys -/
theorem ca_dictI {K : Frag} {l : Addr} {o : Obj} {vs : List Value} {kvs : List (Int × Value)} {Q : Value → Vm → Wd → Led → Prop} (hh : A.handled = none) (G : GW w K W) (hK : ∃ o, K.lookup 2 = some o) (hl : W l = some o) (ho : PlO o vs) (hz : kvs.length ≤ 1000) (hlen : vs.length = kvs.length)
    (hA : ∀ (i : Nat) v, vs[i]? = some v → ∃ k t x, kvs[i]? = some (k, x) ∧ PairW W v (.int k t) x) (hn : (kvs.map (·.1)).Nodup)
    (h : ∀ D W', DctW prog w W' D kvs → Le W W' → Q (.ref D) m W' X) : Tr prog w A env g m W X (call (.type "dict") [.ref l]) Q := by
  have ex : ∀ i : Nat, ∃ p : Value × Value, ∀ v, vs[i]? = some v → PairW W v p.1 p.2 ∧ ∃ k t, kvs[i]? = some (k, p.2) ∧ p.1 = .int k t := fun i => by
    cases q : vs[i]? with
    | none => exact ⟨(.none, .none), fun v e => by cases e⟩
    | some v =>
      refine und fun Gq hGq => ?_
      obtain ⟨k, t, x, h1, h2⟩ := hA i v q
      refine hGq ?_
      clear hGq Gq
      exact ⟨(.int k t, x), fun v' e => by cases e; exact ⟨h2, k, t, h1, rfl⟩⟩
  obtain ⟨px, hpx⟩ := Classical.axiomOfChoice ex
  refine Tr.postF (ca_dict (J := fun D i o => (D == sysModules) = false ∧ o.IsDictOf (intKind prog w) (kvs.take i)) (px := px) hh G hK hl ho (fun i v e => (hpx i v e).1) (fun D hs => ⟨hs, by simpa using emptyD_is prog w⟩) (fun D i o s' hi S ⟨hs, j⟩ Q hQ => ?_) fun D o ⟨hs, j⟩ _ _ => ⟨D, o, X, rfl, fun W'' hw le => h D W'' ⟨hs, o, hw, by rw [hlen, List.take_length] at j; exact j⟩ le⟩)
  refine und fun Gq hGq => ?_
  obtain ⟨_, k, t, e1, e2⟩ := hpx i _ (List.getElem?_eq_getElem hi)
  refine hGq ?_
  clear hGq Gq
  rw [e2]
  refine wpAny_dictSet_pairs (knd := intKind prog w) (intKind_is prog w k t) (S.dct ⟨hs, o, .inr List.mem_cons_self, j⟩) (fun h' hm hsb => ?_) (by rw [sizeLine_eq, List.length_take]; omega)
  obtain ⟨o', e, hd'⟩ := Heap.dictOf_iff.mp hm
  exact hQ o' h' _ hsb e ⟨hs, by rw [stored_snoc hn e1] at hd'; exact hd'⟩
/-- dict of pairs whose keys are pairs of ints -/
theorem ca_dictT {K : Frag} {l : Addr} {o : Obj} {vs : List Value} {xs : List (List Int × Addr × Value)} {Q : Value → Vm → Wd → Led → Prop} (hu : A.units + 8 < cLine) (hh : A.handled = none) (G : GW w K W) (hK : ∃ o, K.lookup 2 = some o) (hl : W l = some o) (ho : PlO o vs) (hz : xs.length ≤ 1000) (hlen : vs.length = xs.length)
    (hA : ∀ (i : Nat) v, vs[i]? = some v → ∃ x, xs[i]? = some x ∧ KeyW prog w W x.1 x.2.1 ∧ PairW W v (.ref x.2.1) x.2.2) (hn : (xs.map (·.1)).Nodup)
    (h : ∀ D o, TctX prog w W ((D, o) :: X) D xs → W D = none → D ∉ adr X → Q (.ref D) m W ((D, o) :: X)) : Tr prog w A env g m W X (call (.type "dict") [.ref l]) Q := by
  have ex : ∀ i : Nat, ∃ p : Value × Value, ∀ v, vs[i]? = some v → PairW W v p.1 p.2 ∧ ∃ x, xs[i]? = some x ∧ KeyW prog w W x.1 x.2.1 ∧ p = (.ref x.2.1, x.2.2) := fun i => by
    cases q : vs[i]? with
    | none => exact ⟨(.none, .none), fun v e => by cases e⟩
    | some v =>
      refine und fun Gq hGq => ?_
      obtain ⟨x, h1, h2, h3⟩ := hA i v q
      refine hGq ?_
      clear hGq Gq
      exact ⟨(.ref x.2.1, x.2.2), fun v' e => by cases e; exact ⟨h3, x, h1, h2, rfl⟩⟩
  obtain ⟨px, hpx⟩ := Classical.axiomOfChoice ex
  refine ca_dict (J := fun D i o => TctX prog w W ((D, o) :: X) D (xs.take i)) (px := px) hh G hK hl ho (fun i v e => (hpx i v e).1) (fun D hs => by simpa using TctX.nil hs) (fun D i o s' hi S j Q hQ => ?_) fun D o j h1 h2 => h D o (by rw [hlen, List.take_length] at j; exact j) h1 h2
  refine und fun Gq hGq => ?_
  obtain ⟨_, x, e1, hk, e2⟩ := hpx i _ (List.getElem?_eq_getElem hi)
  refine hGq ?_
  clear hGq Gq
  rw [e2]
  refine wpAny_dictSet_heap (knd := tupleKind (intKind prog w)) (show A.in1.in1.units < cLine from Nat.lt_of_le_of_lt (by simp) hu) (hk.at S) (S.tct j) (fun h' hm hs => ?_) (by rw [sizeLine_eq, List.length_take]; omega)
  refine und fun Gq hGq => ?_
  obtain ⟨o', es, ep, e, h1, h2, h3, h4, h5⟩ := hm
  obtain ⟨hd1, _, _, _, _, _, _, _, hkw, _⟩ := j
  refine hGq ?_
  clear hGq Gq
  refine hQ o' h' _ hs e ?_
  rw [← storedH_snoc hn e1]
  refine ⟨hd1, o', es, ep, .inr List.mem_cons_self, h1, h2, h3, fun y hy => ?_, h5⟩
  rcases mem_storedH hy with ⟨z, hz, e1, e2⟩ | ⟨e1, e2⟩
  · rw [e1, e2]; exact hkw z hz
  · rw [e1, e2]; exact hk
end
end
section -- Lcp
/-- a plain list that stands in the heap -/
noncomputable def PlAt (h : Heap) (D : Addr) (ys : List Value) : Prop := ∃ n, h.get? D = some { cls := .type "list", data := .seq ys.toArray n }
theorem PlAt.at {h h' : Heap} {D : Addr} {ys : List Value} (x : PlAt h D ys) (hk : ∀ o, h.get? D = some o → h'.get? D = some o) : PlAt h' D ys := let ⟨n, e⟩ := x; ⟨n, hk _ e⟩
section
variable {prog : Program} {w : World} {A : Around} {env : Env} {m : Vm} {g : Org} {W : Wd} {X : Led}
theorem cp_coreP {tgt elt iter : Expr} {ifs : List Expr} {scope : Scope} {pos : Pos} {cl : List (Str × Addr)} {xs : List Str} {use : Option (Value → Sem Unit)} {Q : Value → Vm → Wd → Led → Prop} {ip : Pos}
    (hs : ∀ x, foldedSetIterable iter env x = pure x) (hclos : closureFor scope env = pure cl) (hcell : ∀ y ∈ scope.names, y.2 ≠ .cell) (hkind : scope.kind = .function) (hnames : ∀ y ∈ scope.names, y.2 = .local → scope.names.lookup y.1 = some .local)
    (hcl : ∀ p ∈ cl, env.cells.lookup p.1 = some p.2) (hxs : ∀ p ∈ cl, xs.contains p.1 = false ∧ ((relabel scope env).names.lookup p.1 == some .local) = false)
    (h : Tr prog w A env g m W X (eval iter env) (CpI prog w A env tgt elt ifs scope cl xs PlO (FU prog w A env use Q))) :
    Tr prog w A env g m W X (comprehension (.ListComp elt [⟨tgt, iter, ifs, 0⟩] scope pos) scope env ip (newList []) false (eval iter env) use) Q := .mk fun s C => by
  refine wpAny_comprehension_free (g := ⟨tgt, iter, ifs, 0⟩) (gs := []) rfl hs hclos hkind hnames (h.go C fun v s₁ m₁ W₁ X₁ C₁ h₁ => ?_)
  refine und fun Gq hGq => ?_
  obtain ⟨X₂, n, P, it, hz, J, j0, turn, done⟩ := h₁
  refine hGq ?_
  clear hGq Gq
  refine wpAny_mono (it.run s₁ C₁.adv.st) (fun r s₂ h₂ => ?_) fun _ _ x => x
  refine und fun Gq hGq => ?_
  obtain ⟨I, fp, wr, SI, h₂, tk₂, rfl, rfl, wk, si, up, hfp, hwr, live, lo⟩ := h₂
  refine hGq ?_
  clear hGq Gq
  refine wpAny_newObj_type (wpAny_newFunctionEnv hcell (by intro y hy; simp at hy) (fun h₄ hns₄ hsb₄ => ?_) hkind)
  dsimp only at hns₄ hsb₄ ⊢
  generalize hH : h₂.push { cls := .type "list", dict := none, data := .seq ([] : List Value).toArray } = H at hns₄ hsb₄ ⊢
  generalize hDn : h₂.objs.size = D
  generalize hCn : H.objs.size = Cn at hns₄ hsb₄ ⊢
  have hDC : Cn = D + 1 := by rw [← hCn, ← hH, Heap.size_push, hDn]
  have hDCn : D ≠ Cn := by rw [hDC]; exact Nat.ne_of_lt (Nat.lt_succ_self _)
  have leB : ∀ b : Addr, b = D → D ≤ b := fun b q => Nat.le_of_eq q.symm
  have leC : ∀ b : Addr, b = Cn → D ≤ b := fun b q => by rw [q, hDC]; exact Nat.le_succ _
  have fr2 : ∀ a, D ≤ a → h₂.get? a = none := fun a ha => by
    cases q : h₂.get? a with
    | none => rfl
    | some o => exact absurd (Heap.lt_size q) (by rw [hDn]; exact Nat.not_lt.mpr ha)
  have fr1 : ∀ a, D ≤ a → s₁.heap.get? a = none := fun a ha => by
    cases q : s₁.heap.get? a with
    | none => rfl
    | some o => have := up a o q; rw [fr2 a ha] at this; cases this
  have up4 : ∀ b o, h₂.get? b = some o → h₄.get? b = some o := fun b o e => by
    have hb := Heap.lt_size e
    rw [hDn] at hb
    refine hsb₄.extBut b o (Nat.ne_of_lt (Nat.lt_trans hb (by rw [hDC]; exact Nat.lt_succ_self _))) (Heap.get?_push_of_some _ ?_)
    rw [← hH]; exact Heap.get?_push_of_some _ e
  have hD4 : PlAt h₄ D [] := by
    refine ⟨0, hsb₄.extBut D _ (by rw [hDC]; exact Nat.ne_of_lt (Nat.lt_succ_self _)) (Heap.get?_push_of_some _ ?_)⟩
    rw [← hH, ← hDn]; exact Heap.get?_push_size _ rfl
  have fW : ∀ a, s₁.heap.get? a = none → W₁ a = none ∧ a ∉ adr X₁ := fun a ha => by
    refine ⟨?_, fun hm => ?_⟩
    · cases q : W₁ a with
      | none => rfl
      | some o => rw [C₁.adv.st.w a o q] at ha; cases ha
    · obtain ⟨o, hm⟩ := mem_adr.mp hm
      rw [C₁.adv.st.x a o hm] at ha; cases ha
  have subX : ∀ a, a ∈ adr X₂ → a ∈ adr X₁ := fun a ha => by obtain ⟨o, hm⟩ := mem_adr.mp ha; exact mem_adr_of (it.sub _ hm)
  have own : ∀ b, Own env b → (∃ o, s₁.heap.get? b = some o) ∧ b ∉ adr X₁ := fun b hb => by
    rcases hb with rfl | ⟨x, hx⟩
    · obtain ⟨ml, ⟨o, _, _, e, _⟩, _⟩ := C₁.fm.loc
      exact ⟨⟨o, e⟩, C₁.fm.lx⟩
    · obtain ⟨⟨o, e, _⟩, _, c3, _⟩ := C₁.fm.cel x b hx
      exact ⟨⟨o, e⟩, c3⟩
  have lk : ∀ {x : Str} {a : Addr}, cl.lookup x = some a → env.cells.lookup x = some a := fun {x a} e => hcl (x, a) (mem_of_lookup e)
  let cenv := compEnvC scope cl Cn env
  let g₂ : Org := ⟨fun a => a ∈ adr X₁ ∨ ∃ x, cl.lookup x = some a, W₁, s₁⟩
  let B : Addr → Prop := fun b => (b ∈ fp ∧ W₁ b = none) ∨ b = D
  have C4 : Cur cenv (cmv cenv m₁) g₂ W₁ X₂ { s₁ with heap := h₄, toks := tk₂ + 0 } := by
    have st1 := C₁.adv.st.perm it.sub (it.nd C₁.adv.st.nd)
    refine ⟨⟨⟨h₄, _, rfl⟩, ⟨fun b o e => up4 b o (up b o (st1.w b o e)), fun b o e => up4 b o (up b o (st1.x b o e)), st1.xw, st1.nd⟩, Le.refl _, fun b o e _ => up4 b o (up b o e), fun b o e => .inl e, fun b hb => .inl (.inl (subX b hb))⟩,
      ⟨⟨_, hns₄, fun x hx => ?_⟩, (fW Cn (fr1 Cn (by omega))).1, fun hm => (fW Cn (fr1 Cn (by omega))).2 (subX _ hm), fun x a hc => ?_, fun x y a hx hy => C₁.fm.inj x y a (lk hx) (lk hy)⟩, fun a ha => ?_⟩
    · unfold cmv
      rw [hx]; simp
    · obtain ⟨⟨oc, hoc, hd⟩, c2, c3, c4⟩ := C₁.fm.cel x a (lk hc)
      have e : cmv cenv m₁ x = m₁ x := cmv_of (hxs (x, a) (mem_of_lookup hc)).2 rfl
      rw [e]
      exact ⟨⟨oc, up4 _ _ (up _ _ hoc), hd⟩, c2, fun hm => c3 (subX _ hm), fun q => by
        have := fr1 a (by rw [q]; show D ≤ Cn; omega)
        rw [this] at hoc; cases hoc⟩
    · rcases ha with e | ⟨x, hx⟩
      · exact .inr (fr1 a (by rw [e]; show D ≤ Cn; omega))
      · exact .inl (.inr ⟨x, hx⟩)
  have notOwn : ∀ b, B b → ¬ Own cenv b := fun b q ho => by
    rcases ho with e | ⟨x, hx⟩
    · rcases q with ⟨q1, q2⟩ | q
      · obtain ⟨o, eo⟩ := live 0 h₂ si b q1
        rw [fr2 b (by rw [e]; show D ≤ Cn; omega)] at eo; cases eo
      · have e' : b = Cn := e
        exact absurd (q.symm.trans e') hDCn
    · obtain ⟨⟨o, e⟩, hx'⟩ := own b (.inr ⟨x, lk hx⟩)
      rcases q with ⟨q1, q2⟩ | q
      · rcases hfp b q1 with ⟨o', e'⟩ | ⟨_, _, hn | hm⟩
        · rw [q2] at e'; cases e'
        · rw [hn] at e; cases e
        · exact hx' hm
      · rw [fr1 b (leB b q)] at e; cases e
  have d4 : Side cenv g₂ W₁ X₂ B := by
    refine ⟨fun b q => ?_, fun b q hm => ?_, notOwn, fun b q => ?_⟩
    · rcases q with q | q
      · exact q.2
      · exact (fW b (fr1 b (leB b q))).1
    · rcases q with ⟨q1, q2⟩ | q
      · rcases hfp b q1 with ⟨o, e⟩ | ⟨_, hx, _⟩
        · rw [q2] at e; cases e
        · exact hx hm
      · exact (fW b (fr1 b (leB b q))).2 (subX b hm)
    · rcases q with ⟨q1, q2⟩ | q
      · rcases hfp b q1 with ⟨o', e'⟩ | ⟨_, _, hn | hm⟩
        · rw [q2] at e'; cases e'
        · exact .inr hn
        · exact .inl (.inl hm)
      · exact .inr (fr1 b (leB b q))
  have si4 : SI 0 h₄ := wk.frame _ _ _ si fun b _ o e => up4 b o e
  -- the end of the whole
  have fin : ∀ s' mi W' X' ys, Cur cenv mi g₂ W' X' s' → Ag xs mi (cmv cenv m₁) → Side cenv g₂ W' X' B → PlAt s'.heap D ys → J n ys W' X' → ys.length ≤ n → Le W₁ W' →
      compPost (model prog w) A no use (fun v s' => ∃ m' W' X', Cur env m' g W' X' s' ∧ Q v m' W' X') (.ref D) Cn (.ok .next) s' := fun s' mi W' X' ys C' ag sd hl j hlen le => by
    have Ce : Cur env m₁ g W' X' s' := by
      refine ⟨C₁.adv.trans (g' := g₂) C'.adv fun a ha => ?_, ⟨?_, ?_, ?_, fun x a hc => ?_, C₁.fm.inj⟩, C₁.ok⟩
      · rcases ha with ha | ⟨x, hx⟩
        · exact C₁.adv.xfr a ha
        · exact C₁.ok a (.inr ⟨x, lk hx⟩)
      · obtain ⟨ml, ⟨o, es, ep, ho, r1, r2, r3⟩, hm⟩ := C₁.fm.loc
        refine ⟨ml, ⟨o, es, ep, (C'.adv.old (g := g₂) ho C₁.fm.lw fun q => ?_).1, r1, r2, r3⟩, hm⟩
        rcases q with q | ⟨x, q⟩
        · exact C₁.fm.lx q
        · exact (C₁.fm.cel x _ (lk q)).2.2.2 rfl
      · obtain ⟨ml, ⟨o, es, ep, ho, r1, r2, r3⟩, hm⟩ := C₁.fm.loc
        refine (C'.adv.old (g := g₂) ho C₁.fm.lw fun q => ?_).2.1
        rcases q with q | ⟨x, q⟩
        · exact C₁.fm.lx q
        · exact (C₁.fm.cel x _ (lk q)).2.2.2 rfl
      · obtain ⟨ml, ⟨o, es, ep, ho, r1, r2, r3⟩, hm⟩ := C₁.fm.loc
        refine (C'.adv.old (g := g₂) ho C₁.fm.lw fun q => ?_).2.2
        rcases q with q | ⟨x, q⟩
        · exact C₁.fm.lx q
        · exact (C₁.fm.cel x _ (lk q)).2.2.2 rfl
      · obtain ⟨⟨oc, hoc, hd⟩, c2, c3, c4⟩ := C₁.fm.cel x a hc
        by_cases q : ∃ y, cl.lookup y = some a
        · obtain ⟨y, hy⟩ := q
          obtain rfl : x = y := C₁.fm.inj x y a hc (lk hy)
          refine und fun Gq hGq => ?_
          obtain ⟨k1, k2, k3, _⟩ := C'.fm.cel x a hy
          refine hGq ?_
          clear hGq Gq
          have := hxs (x, a) (mem_of_lookup hy)
          rw [ag_get ag this.1 this.2 rfl] at k1
          exact ⟨k1, k2, k3, c4⟩
        · obtain ⟨k1, k2, k3⟩ := C'.adv.old (g := g₂) hoc c2 fun z => z.elim c3 q
          exact ⟨⟨oc, k1, hd⟩, k2, k3, c4⟩
    refine und fun Gq hGq => ?_
    obtain ⟨oD, hoD, hO⟩ : ∃ oD, s'.heap.get? D = some oD ∧ PlO oD ys := by obtain ⟨nD, e⟩ := hl; exact ⟨_, e, nD, rfl⟩
    have sdE : Side env g W' X' (fun b => b = D ∨ b = Cn) := by
      refine ⟨fun b q => ?_, fun b q => ?_, fun b q ho => ?_, fun b q => ?_⟩
      · rcases q with rfl | rfl
        · exact sd.w _ (.inr rfl)
        · exact C'.fm.lw
      · rcases q with rfl | rfl
        · exact sd.x _ (.inr rfl)
        · exact C'.fm.lx
      · obtain ⟨⟨o, e⟩, _⟩ := own b ho
        rw [fr1 b (q.elim (leB b) (leC b))] at e; cases e
      · cases e : g.s.heap.get? b with
        | none => exact .inr rfl
        | some o =>
          refine .inl (Classical.byContradiction fun hx => ?_)
          have := C₁.adv.keep b o e hx
          rw [fr1 b (q.elim (leB b) (leC b))] at this; cases this
    have Ct := Ce.take sdE (.inl rfl) hoD
    obtain ⟨ml, hnC, _⟩ := C'.fm.loc
    refine hGq ?_
    clear hGq Gq
    have sdC : Side env g W' ((D, oD) :: X') (fun b => b = Cn) := by
      refine ⟨fun b q => sdE.w b (.inr q), fun b q hm => ?_, fun b q => sdE.own b (.inr q), fun b q => sdE.org b (.inr q)⟩
      rw [adr_cons] at hm
      rcases List.mem_cons.mp hm with e | hm
      · have e' : b = D := e
        exact absurd (e'.symm.trans q) hDCn
      · exact sdE.x b (.inr q) hm
    have dn : FU prog w A env use Q D oD m₁ W' X' := done D oD ys W' X' le hO hlen j (sd.w _ (.inr rfl)) (sd.x _ (.inr rfl)) _ fun _ h => h
    cases use with
    | none => exact ⟨ml, hnC, fun h' hs' => ⟨_, _, _, Ct.side (tk := s'.toks) sdC fun b o q e => hs'.extBut b o q e, dn⟩⟩
    | some u =>
      show wpAny (model prog w) A (u (.ref D)) _ no s'
      refine und fun Gq hGq => ?_
      obtain ⟨oC, esC, epC, hoC, r1, r2, r3⟩ := hnC
      refine hGq ?_
      clear hGq Gq
      refine (dn (orgL env W' ((D, oD) :: X') s')).go Ct.self fun _ s'' m'' W'' X'' C'' q => ?_
      have Cb := Ct.back C''
      obtain ⟨sd'', kp⟩ := sdC.go Ct (fun b q => by have q' : b = Cn := q; subst q'; exact ⟨oC, hoC⟩) C''
      exact ⟨ml, ⟨oC, esC, epC, kp Cn oC rfl hoC, r1, r2, r3⟩, fun h' hs' => ⟨_, _, _, Cb.side (tk := s''.toks) sd'' fun b o q e => hs'.extBut b o q e, q⟩⟩
  have loop : ∀ s₄ : Shared, s₄ = { s₁ with heap := h₄, toks := tk₂ + 0 } →
      codeAny (model prog w) A (.compLoop (.ListComp elt [⟨tgt, iter, ifs, 0⟩] scope pos) 0 (.ref I) (.ref D) cenv) (compPost (model prog w) A no use (fun v s' => ∃ m' W' X', Cur env m' g W' X' s' ∧ Q v m' W' X') (.ref D) Cn) s₄ := by
    rintro s₄ rfl
    refine cp_turns (fun k s' => ∃ i mi W' X' ys, k = n + 1 - i ∧ i ≤ n ∧ Cur cenv mi g₂ W' X' s' ∧ Ag xs mi (cmv cenv m₁) ∧ Le W₁ W' ∧ Side cenv g₂ W' X' B ∧ SI i s'.heap ∧ PlAt s'.heap D ys ∧ ys.length ≤ i ∧ J i ys W' X') ?_ (n + 1)
      ⟨0, _, W₁, X₂, [], rfl, Nat.zero_le _, C4, Ag.refl, Le.refl _, d4, si4, hD4, Nat.le_refl _, j0⟩
    intro k s' hJ1
    refine und fun Gq hGq => ?_
    obtain ⟨i, mi, W', X', ys, rfl, hi, C', ag, le, sd, si', hl, hlen, j⟩ := hJ1
    refine hGq ?_
    clear hGq Gq
    have Dfp : D ∉ fp := fun hm => by
      obtain ⟨o, eo⟩ := live 0 h₂ si D hm
      rw [fr2 D (Nat.le_refl _)] at eo; cases eo
    have sdw : Side cenv g₂ W' X' (fun b => b ∈ wr) := ⟨fun b q => sd.w b (.inl ⟨wk.sub b q, hwr b q⟩), fun b q => sd.x b (.inl ⟨wk.sub b q, hwr b q⟩), fun b q => sd.own b (.inl ⟨wk.sub b q, hwr b q⟩), fun b q => sd.org b (.inl ⟨wk.sub b q, hwr b q⟩)⟩
    by_cases hlt : i < n
    · refine wk.item i s' _ no hlt si' fun v h₅ tk₅ pv si₅ hk₅ => ?_
      have C₅ : Cur cenv mi g₂ W' X' { s' with heap := h₅, toks := tk₅ } := C'.side sdw hk₅
      have hl₅ : PlAt h₅ D ys := hl.at fun o e => hk₅ D o (fun q => Dfp (wk.sub D q)) e
      refine lo (i + 1) { s' with heap := h₅, toks := tk₅ } tgt v _ si₅ ?_
      have T := turn.go (orgL cenv W' X' { s' with heap := h₅, toks := tk₅ }) hlt pv le ag j hlen
      have after : ∀ (s₆ : Shared) m₆ W₆ X₆, Cur cenv m₆ (orgL cenv W' X' { s' with heap := h₅, toks := tk₅ }) W₆ X₆ s₆ → Side cenv g₂ W₆ X₆ B ∧ SI (i + 1) s₆.heap ∧ PlAt s₆.heap D ys := fun s₆ m₆ W₆ X₆ C₆ => by
        obtain ⟨sd₆, kp⟩ := sd.go C₅ (fun b q => by
          rcases q with q | q
          · exact live _ _ si₅ b q.1
          · subst q; obtain ⟨n, e⟩ := hl₅; exact ⟨_, e⟩) C₆
        refine ⟨sd₆, wk.frame _ _ _ si₅ fun b hb o e => ?_, hl₅.at fun o e => kp D o (.inr rfl) e⟩
        cases q : W₁ b with
        | none => exact kp b o (.inl ⟨hb, q⟩) e
        | some o' =>
          have e' := C₅.adv.st.w b o' (le b o' q)
          rw [e] at e'; cases e'
          exact C₆.adv.st.w b o (C₆.adv.sub b o (le b o q))
      refine T.go C₅.self fun _ s₆ m₆ W₆ X₆ C₆ h₆ => h₆.go C₆ fun ok s₇ m₇ W₇ X₇ C₇ h₇ => ?_
      cases ok with
      | false =>
        refine und fun Gq hGq => ?_
        obtain ⟨ag', j'⟩ := h₇
        obtain ⟨sd', si'', hl'⟩ := after s₇ m₇ W₇ X₇ C₇
        refine hGq ?_
        clear hGq Gq
        exact ⟨n + 1 - (i + 1), by omega, i + 1, m₇, W₇, X₇, ys, rfl, hlt, C₅.back C₇, ag', le.trans C₇.adv.sub, sd', si'', hl', Nat.le_succ_of_le hlen, j'⟩
      | true =>
        refine Tr.go h₇ C₇ fun y s₈ m₈ W₈ X₈ C₈ h₈ => ?_
        refine und fun Gq hGq => ?_
        obtain ⟨ag', j'⟩ := h₈
        obtain ⟨sd', si'', hl'⟩ := after s₈ m₈ W₈ X₈ C₈
        refine hGq ?_
        clear hGq Gq
        refine wpAny_list_append_plain (x := y) hl' (fun h₉ hl₉ hs₉ => ?_) (by rw [List.size_toArray]; omega)
        refine ⟨n + 1 - (i + 1), by omega, i + 1, m₈, W₈, X₈, ys ++ [y], rfl, hlt, (C₅.back C₈).side (B := fun b => b = D) ⟨fun b q => sd'.w b (.inr q), fun b q => sd'.x b (.inr q), fun b q => sd'.own b (.inr q), fun b q => sd'.org b (.inr q)⟩ fun b o q e => hs₉.extBut b o q e, ag', le.trans C₈.adv.sub, sd', ?_, ?_, by rw [List.length_append]; simp only [List.length_cons, List.length_nil]; omega, j'⟩
        · exact wk.frame _ _ _ si'' fun b hb o e => hs₉.extBut b o (fun q => Dfp (q ▸ hb)) e
        · have : (ys ++ [y]).toArray = ys.toArray.push y := by simp
          rw [← this] at hl₉; exact hl₉
    · obtain rfl : i = n := by omega
      refine wk.done s' _ no si' fun h₅ tk₅ hk₅ => ?_
      exact fin _ mi W' X' ys (C'.side sdw hk₅) ag sd (hl.at fun o e => hk₅ D o (fun q => Dfp (wk.sub D q)) e) j hlen le
  exact codeAny_compStart_list (loop _ rfl) (wk.self 0 _ _ _ si4 (loop _ rfl))
/-- a list comprehension, its value kept -/
theorem ev_compP {tgt elt iter : Expr} {ifs : List Expr} {scope : Scope} {pos : Pos} {cl : List (Str × Addr)} (xs : List Str) {Q : Value → Vm → Wd → Led → Prop}
    (hs : ∀ x, foldedSetIterable iter env x = pure x) (hclos : closureFor scope env = pure cl) (hcell : ∀ y ∈ scope.names, y.2 ≠ .cell) (hkind : scope.kind = .function) (hnames : ∀ y ∈ scope.names, y.2 = .local → scope.names.lookup y.1 = some .local)
    (hcl : ∀ p ∈ cl, env.cells.lookup p.1 = some p.2) (hxs : ∀ p ∈ cl, xs.contains p.1 = false ∧ ((relabel scope env).names.lookup p.1 == some .local) = false)
    (h : Tr prog w A env g m W X (eval iter env) (CpI prog w A env tgt elt ifs scope cl xs PlO (FQ Q))) :
    Tr prog w A env g m W X (eval (.ListComp elt [⟨tgt, iter, ifs, 0⟩] scope pos) env) Q := by
  rw [eval_ListComp]
  exact cp_coreP (use := none) hs hclos hcell hkind hnames hcl hxs h
theorem Tr.plain {tgt elt : Expr} {ifs : List Expr} {scope : Scope} {cl : List (Str × Addr)} {xs : List Str} {F : Addr → Obj → Vm → Wd → Led → Prop} {t : Sem Value} (h : Tr prog w A env g m W X t (CpI prog w A env tgt elt ifs scope cl xs LstO F)) :
    Tr prog w A env g m W X t (CpI prog w A env tgt elt ifs scope cl xs PlO F) :=
  h.mono fun _ _ _ _ h => let ⟨X₂, n, P, it, hz, J, j0, turn, fin⟩ := h; ⟨X₂, n, P, it, hz, J, j0, turn, fun a o ys W' X' le lo => fin a o ys W' X' le lo.lst⟩
/-- a list comprehension, its value kept -/
theorem ev_comp {tgt elt iter : Expr} {ifs : List Expr} {scope : Scope} {pos : Pos} {cl : List (Str × Addr)} (xs : List Str) {Q : Value → Vm → Wd → Led → Prop}
    (hs : ∀ x, foldedSetIterable iter env x = pure x) (hclos : closureFor scope env = pure cl) (hcell : ∀ y ∈ scope.names, y.2 ≠ .cell) (hkind : scope.kind = .function) (hnames : ∀ y ∈ scope.names, y.2 = .local → scope.names.lookup y.1 = some .local)
    (hcl : ∀ p ∈ cl, env.cells.lookup p.1 = some p.2) (hxs : ∀ p ∈ cl, xs.contains p.1 = false ∧ ((relabel scope env).names.lookup p.1 == some .local) = false)
    (h : Tr prog w A env g m W X (eval iter env) (CpI prog w A env tgt elt ifs scope cl xs LstO (FQ Q))) :
    Tr prog w A env g m W X (eval (.ListComp elt [⟨tgt, iter, ifs, 0⟩] scope pos) env) Q := by
  rw [eval_ListComp]
  exact cp_coreP (use := none) hs hclos hcell hkind hnames hcl hxs (Tr.plain h)
/-- a list comprehension stored in a name of its own line -/
theorem ex_asgC {tgt elt iter : Expr} {ifs : List Expr} {scope : Scope} {pos spos py : Pos} {y : Str} {cl : List (Str × Addr)} (xs : List Str) {Q : Flow → Vm → Wd → Led → Prop}
    (hsw : swapsWith (.ListComp elt [⟨tgt, iter, ifs, 0⟩] scope pos) (some (.Name y py)) spos.line env = pure true)
    (hs : ∀ x, foldedSetIterable iter env x = pure x) (hclos : closureFor scope env = pure cl) (hcell : ∀ y ∈ scope.names, y.2 ≠ .cell) (hkind : scope.kind = .function) (hnames : ∀ y ∈ scope.names, y.2 = .local → scope.names.lookup y.1 = some .local)
    (hcl : ∀ p ∈ cl, env.cells.lookup p.1 = some p.2) (hxs : ∀ p ∈ cl, xs.contains p.1 = false ∧ ((relabel scope env).names.lookup p.1 == some .local) = false)
    (h : Tr prog w A env g m W X (eval iter env) (CpI prog w A env tgt elt ifs scope cl xs LstO (FS prog w A env y Q))) :
    Tr prog w A env g m W X (exec (.Assign [.Name y py] (.ListComp elt [⟨tgt, iter, ifs, 0⟩] scope pos) spos) env) Q := .mk fun s C => by
  rw [exec_Assign_Name_used _ _ _ _ hsw]
  refine wpAny_bind (wpAny_standAt (wpAny_bind ?_))
  show wpAny _ A (do let _ ← comprehension (.ListComp elt [⟨tgt, iter, ifs, 0⟩] scope pos) scope env _ (newList []) false (eval iter env) (some (assign (.Name y py) env))) _ _ s
  have h' := h.mono (Q := CpI prog w A env tgt elt ifs scope cl xs LstO (FU prog w A env (some (assign (.Name y py) env)) fun _ => Q .next))
    fun v m' W' X' ⟨X₂, n, P, it, hz, J, j0, turn, dn⟩ => ⟨X₂, n, P, it, hz, J, j0, turn, fun a o ys W' X' le lo hl j hw hx Gq hG => hG _ fun g' => as_name (dn a o ys W' X' le lo hl j hw hx (fun X' => FS prog w A env y Q a o m' W' X') (fun _ h => h) g')⟩
  refine wpAny_bind (wpAny_mono ((cp_coreP (use := some (assign (.Name y py) env)) (Q := fun _ => Q .next) (ip := _) hs hclos hcell hkind hnames hcl hxs (Tr.plain h')).run s C) (fun _ s' ⟨m', W', X', C', q⟩ => wpAny_pure (wpAny_pure ⟨m', W', X', C', q⟩)) fun _ _ e => e)
end
end
section -- Ld
section
variable {prog : Program} {w : World} {A : Around} {env : Env} {g : Org} {m : Vm} {W : Wd} {X : Led} {s : Shared} {Q : Value → Vm → Wd → Led → Prop}
theorem Tup2.key {v : Value} {p : Int × Int} (h : Tup2 W v p) : ∃ a, v = .ref a ∧ KeyW prog w W [p.1, p.2] a := by
  refine und fun Gq hGq => ?_
  obtain ⟨a, t, u, rfl, h⟩ := h
  refine hGq ?_
  clear hGq Gq
  exact ⟨a, rfl, _, _, _, h, rfl, rfl, .cons (intKind_is prog w _ t) (.cons (intKind_is prog w _ u) .nil)⟩

/-- t[a:] of a tuple -/
theorem su_slt {value slice : Expr} {t sl : Addr} {vs : List Value} {a : Nat} {u : Tok} (ht : TupX W X t vs) (hs : SlcW W sl (.int a u) .none) (h1 : 1 ≤ a) (ha : a ≤ vs.length) (hz : vs.length ≤ 1000)
    {ops : List Value} (he : subscripted slice false (.ref t) (.ref sl) = operate ops (getItem (.ref t) (.ref sl))) (hg : ∀ r, letTemporaryGo value (.ref t) r = pure ())
    (h : ∀ r W', W' r = some { cls := .type "tuple", data := .seq (vs.drop a).toArray } → Le W W' → Q (.ref r) m W' X) : Tr prog w A env g m W X (subscriptTail value slice (.ref t) (.ref sl)) Q := .mk fun s C => by
  have hT := C.adv.st.tup ht
  refine subscriptTail_ops hT.typeIs slot_tuple_getitem.lookup (getItem_tuple_from (a := a) hT ⟨_, C.adv.st.w _ _ hs, rfl, rfl⟩ h1 (by rw [List.size_toArray]; exact ha) ?_ (by rw [List.size_toArray, sizeLine_eq]; omega)) he hg
  have B := C.pushW { cls := .type "tuple", data := .seq (vs.toArray.toList.drop a).toArray }
  exact ⟨_, _, _, B.1, h _ _ (by rw [put_same]) (put_le B.2)⟩

/-! the values of a dict -/
noncomputable def ViewW (W : Wd) (v d : Addr) : Prop := W v = some { cls := .type "dict_values", data := .fields #[.ref d] }
theorem gm_dval {d : Addr} {kvs : List (Int × Value)} {pl : Sem Bool} {Q : Value × List Value → Vm → Wd → Led → Prop} (hd : DctX prog w W X d kvs) (h : Q (.builtin "dict.values", [.ref d]) m W X) : Tr prog w A env g m W X (getMethod (.ref d) "values" pl) Q := .mk fun s C =>
  getMethod_builtin (C.adv.st.dct hd).typeIs PySem.F.plainAttrs_dict PySem.F.slot_dict_values PySem.F.type_dict_values (C.adv.st.dct hd).mapOf.noDict ⟨_, _, _, C, h⟩
theorem ca_dval {d : Addr} {kvs : List (Int × Value)} (hd : DctX prog w W X d kvs) (h : ∀ v W', ViewW W' v d → Le W W' → Q (.ref v) m W' X) : Tr prog w A env g m W X (call (.builtin "dict.values") [.ref d]) Q := .mk fun s C => by
  refine call_meetsIn PySem.F.slot_dict_values (C.adv.st.dct hd).typeIs PySem.F.entry_dict_values (PySem.F.args_dict_values_1 _) (meets_dict_values (intKind prog w) d hd.1) ⟨⟨_, C.adv.st.dct hd⟩, ?_⟩
  have B := C.pushW { cls := .type "dict_values", data := .fields #[.ref d] }
  exact ⟨_, _, _, B.1, h _ _ put_same (put_le B.2)⟩
theorem lk_values_contains : typeLookup (.type "dict_values") "__contains__" = pure none := am_miss_of_fast (by decide +kernel)
theorem plain_cit : plainId "proto.contains_iter" = true := by decide +kernel
theorem entry_cit : entryFor table "proto.contains_iter" = some Builtin.«proto.contains_iter» := entryFor_of_tree (by kernel_rfl)
theorem cit_loop {I t : Addr} {n : Nat} {qs : List (List Int)} {ks : List Int} {fp wr : List Addr} {SI : Nat → Heap → Prop} {R : Result → Shared → Prop} (hu : A.in1.units < cLine) (hk : KeyW prog w W ks t)
    (wk : Walks prog w A.in1 I fp wr n (fun i v => ∃ a q, v = .ref a ∧ qs[i]? = some q ∧ KeyW prog w W q a) SI) (sd : Side env g W X (fun b => b ∈ wr)) (hqs : qs.length = n) (k : Nat) :
    ∀ (i : Nat) (s : Shared), n - i = k → i ≤ n → Cur env m g W X s → SI i s.heap → (∀ q ∈ qs.take i, q ≠ ks) → (∀ s', Cur env m g W X s' → R (.ok (.ret (.bool (decide (ks ∈ qs))))) s') →
      wpAny (model prog w) A.in1 (Builtin.«proto.contains_iter» ⟨[.ref I, .ref t], []⟩) (fun f s' => match f with | .done f => R (.ok f) s' | .again c' => c'.quiet = true ∧ codeAny (model prog w) A c' R s') no s := by
  induction k with
  | zero =>
    intro i s hk hi C si j fin
    obtain rfl : i = n := by omega
    unfold Builtin.«proto.contains_iter»
    refine wpAny_bind (wk.done s _ no si fun h' tk hk' => ?_)
    refine wpAny_bind (wpAny_rule (wpAny_pure ?_))
    have e : decide (ks ∈ qs) = false := decide_eq_false fun hm => by
      rw [List.take_of_length_le (by omega)] at j
      exact j ks hm rfl
    have := fin _ (C.side (tk := tk) sd hk')
    rw [e] at this
    exact this
  | succ k ih =>
    intro i s hk' hi C si j fin
    have hlt : i < n := by omega
    unfold Builtin.«proto.contains_iter»
    refine wpAny_bind (wk.item i s _ no hlt si fun v h' tk pv si' hk' => ?_)
    refine und fun Gq hGq => ?_
    obtain ⟨a, q, rfl, hq, hkq⟩ := pv
    refine hGq ?_
    clear hGq Gq
    have C1 : Cur env m g W X { s with heap := h', toks := tk } := C.side sd hk'
    refine wpAny_bind (wpAny_eqBool_tuple (knd := intKind prog w) hu (hkq.at C1.adv.st) (hk.at C1.adv.st) ?_)
    by_cases e : q = ks
    · rw [decide_eq_true e]
      simp only [if_true]
      refine wpAny_bind (wpAny_rule (wpAny_pure ?_))
      have e2 : decide (ks ∈ qs) = true := decide_eq_true (e ▸ List.mem_of_getElem? hq)
      have := fin _ C1
      rw [e2] at this
      exact this
    · rw [decide_eq_false e]
      simp only [Bool.false_eq_true, if_false]
      refine wpAny_pure ⟨plainId_quiet plain_cit _, codeAny_builtin entry_cit ?_⟩
      rw [Around.under_plainId plain_cit _]
      refine wpAny_mono (ih (i + 1) _ (by omega) hlt C1 si' (fun z hz => ?_) fin) (fun f s' z => z) fun _ _ x => x.elim
      rw [List.take_add_one, hq] at hz
      rcases List.mem_append.mp hz with hz | hz
      · exact j z hz
      · have : z = q := by simpa using hz
        rw [this]; exact e
theorem co_ninV {t v d : Addr} {kvs : List (Int × Value)} {qs : List (List Int)} {ks : List Int} (hh : A.handled = none) (hu : A.units + 8 < cLine) (hk : KeyW prog w W ks t) (hv : ViewW W v d) (hd : DctX prog w W X d kvs)
    (hA : All2 (fun (x : Int × Value) q => ∃ a, x.2 = .ref a ∧ KeyW prog w W q a) kvs qs) (h : Q (.bool (!decide (ks ∈ qs))) m W X) : Tr prog w A env g m W X (compareOp .NotIn (.ref t) (.ref v)) Q := .mk fun s C => by
  obtain ⟨ep, hD⟩ := (C.adv.st.dct hd).dictAt
  have hV : s.heap.IsValuesView v d := ⟨_, C.adv.st.w _ _ hv, rfl, rfl⟩
  show wpAny _ A (contains (.ref v) (.ref t) >>= fun b => pure (Value.bool (!b))) _ _ s
  refine wpAny_bind ?_
  unfold contains
  refine wpAny_holding ?_
  rw [stdlibNamesSay?_of_typeIs hV.typeIs]
  refine wpAny_bind (wpAny_specialOf hV.typeIs lk_values_contains ?_)
  show wpAny (model prog w) A (if ((none : Option Value) == some Value.none) = true then _ else _) _ _ s
  rw [if_neg (by simp)]
  refine wpAny_bind (wpAny_callSpecialUnlessNone?_none hV.typeIs lk_values_contains ?_)
  refine wpAny_bind (wpAny_rule (wpAny_bind (wpAny_tryCatch (wpAny_pyIter_values hV hD ?_))))
  have C1 := C.keep (fun b o e => Heap.get?_push_of_some { cls := .type "dict_valueiterator", data := .fields #[.ref d, .int 0 0, .int kvs.length 0, .int ep 0] } e) s.toks
  have hne : d ≠ s.heap.objs.size := by
    refine und fun Gq hGq => ?_
    obtain ⟨_, _, ho, _⟩ := hD
    refine hGq ?_
    clear hGq Gq
    exact Nat.ne_of_lt (Heap.lt_size ho)
  have fresh : s.heap.get? s.heap.objs.size = none := fresh_size
  have W' := Walks.dictValues (prog := prog) (w := w) (A := A.in1) (knd := intKind prog w) hh s.heap.objs.size d hne kvs ep
  have fW : W s.heap.objs.size = none := by
    cases q : W s.heap.objs.size with
    | none => rfl
    | some o => rw [C.adv.st.w _ _ q] at fresh; cases fresh
  have sd : Side env g W X (fun b => b ∈ [s.heap.objs.size]) := by
    refine ⟨fun b q => ?_, fun b q hm => ?_, fun b q ho => ?_, fun b q => ?_⟩ <;> rw [List.mem_singleton] at q <;> subst q
    · exact fW
    · obtain ⟨o, hm⟩ := mem_adr.mp hm
      rw [C.adv.st.x _ _ hm] at fresh; cases fresh
    · rcases ho with e | ⟨x, hx⟩
      · obtain ⟨ml, ⟨o, _, _, e', _⟩, _⟩ := C.fm.loc
        rw [← e, fresh] at e'; cases e'
      · obtain ⟨⟨o, e, _⟩, _⟩ := C.fm.cel x _ hx
        rw [fresh] at e; cases e
    · cases e : g.s.heap.get? s.heap.objs.size with
      | none => exact .inr rfl
      | some o => exact .inl (Classical.byContradiction fun hx => by rw [C.adv.keep _ o e hx] at fresh; cases fresh)
  refine wpAny_bind (wpAny_runValue (codeAny_builtin entry_cit ?_))
  rw [Around.under_plainId plain_cit _]
  have wk2 : Walks prog w A.in1 s.heap.objs.size [s.heap.objs.size, d] [s.heap.objs.size] kvs.length (fun i v => ∃ a q, v = .ref a ∧ qs[i]? = some q ∧ KeyW prog w W q a) (fun i h => h.IsValIter s.heap.objs.size d i kvs.length ep ∧ h.DictAt (intKind prog w) d kvs ep) :=
    { sub := W'.sub, frame := W'.frame, done := W'.done, self := W'.self, item := fun i s Q E hi st hQ => W'.item i s Q E hi st fun v h' tk ⟨k, e⟩ => hQ v h' tk (by obtain ⟨q, hq, a, h1, h2⟩ := hA.get' i _ e; exact ⟨a, q, h1, hq, h2⟩) }
  refine wpAny_mono (cit_loop (R := fun r s' => r = .ok (.ret (.bool (decide (ks ∈ qs)))) ∧ Cur env m g W X s') (Nat.lt_of_le_of_lt (by simp) hu) hk wk2 sd hA.length.symm _ 0 _ rfl (Nat.zero_le _) C1 ⟨⟨_, Heap.get?_push_size _ rfl, rfl, rfl⟩, hD.push _⟩ (fun q hq => by simp at hq) (fun s' C' => ⟨rfl, C'⟩)) (fun f s' z => ?_) fun _ _ x => x.elim
  cases f with
  | done f =>
    obtain ⟨e, C'⟩ := z
    cases e
    exact wpAny_pure (wpAny_pure ⟨_, _, _, C', h⟩)
  | again c' =>
    refine ⟨z.1, codeAny_mono z.2 fun r s' ⟨e, C'⟩ => ?_⟩
    subst e
    exact wpAny_pure (wpAny_pure ⟨_, _, _, C', h⟩)
end
end
section -- Le
/-- a dict that stands in the heap -/
noncomputable def DAt (prog : Program) (w : World) (h : Heap) (D : Addr) (ys : List (Int × Value)) : Prop := ∃ o, h.get? D = some o ∧ o.IsDictOf (intKind prog w) ys
theorem DAt.at {prog : Program} {w : World} {h h' : Heap} {D : Addr} {ys : List (Int × Value)} (x : DAt prog w h D ys) (hk : ∀ o, h.get? D = some o → h'.get? D = some o) : DAt prog w h' D ys := let ⟨o, e, d⟩ := x; ⟨o, hk _ e, d⟩
section
variable {prog : Program} {w : World} {A : Around} {env : Env} {m : Vm} {g : Org} {W : Wd} {X : Led}
theorem cp_turnsD {R : Result → Shared → Prop} {s : Shared} {kx vx target iter : Expr} {ifs : List Expr} {scope : Scope} {pos : Pos} {it : Value} {D : Addr} {cenv : Env} (I : Nat → Shared → Prop)
    (turn : ∀ n s, I n s → wpAny (model prog w) A (pyNext it) (fun r s₁ => match r with
      | none => R (.ok .next) s₁
      | some v => wpAny (model prog w) A (letOwnedTupleGo target it v) (fun _ s₂ => wpAny (model prog w) A (assign target cenv v) (fun _ s₃ => wpAny (model prog w) A (tst cenv ifs) (fun ok s₄ =>
            if ok = true then wpAny (model prog w) A (eval kx cenv) (fun kv s₅ => wpAny (model prog w) A (eval vx cenv) (fun x s₅ => wpAny (model prog w) A (dictSet D kv x) (fun _ s₆ => ∃ m, m < n ∧ I m s₆) no s₅) no s₅) no s₄
            else ∃ m, m < n ∧ I m s₄) no s₃) no s₂) no s₁) no s)
    (n : Nat) (h : I n s) : codeAny (model prog w) A (.compLoop (.DictComp kx vx [⟨target, iter, ifs, 0⟩] scope pos) 0 it (.ref D) cenv) R s := by
  refine codeAny_loop rfl I (fun n s hI => ?_) n h
  show wpAny _ A ((compTurn (.DictComp kx vx [⟨target, iter, ifs, 0⟩] scope pos) 0 it (.ref D) cenv).onRaise (fun x => do noteFrame x cenv; theTreesLotGoes x)) _ _ s
  refine wpAny_noted ?_
  rw [compTurn_dict]
  have nn : ∀ {α : Type} {t : Sem α} {P : α → Shared → Prop} {E : Value → Shared → Prop} {s : Shared}, wpAny (model prog w) A t P no s → wpAny (model prog w) A t P E s := fun z => wpAny_mono z (fun _ _ y => y) fun _ _ y => y.elim
  refine wpAny_bind (wpAny_standAt (wpAny_bind (nn (wpAny_mono (turn n s hI) (fun r s₁ h₁ => ?_) fun _ _ h' => h'))))
  cases r with
  | none => exact wpAny_pure h₁
  | some v =>
    refine wpAny_bind (nn (wpAny_mono h₁ (fun _ s₂ h₂ => wpAny_bind (nn (wpAny_mono h₂ (fun _ s₃ h₃ => wpAny_bind (nn (wpAny_mono h₃ (fun ok s₄ h₄ => ?_) fun _ _ h' => h'))) fun _ _ h' => h'))) fun _ _ h' => h'))
    cases ok with
    | false => exact wpAny_pure ⟨rfl, h₄⟩
    | true => exact wpAny_bind (wpAny_bind (nn (wpAny_mono h₄ (fun kv s₅ h₅ => wpAny_bind (wpAny_holding (nn (wpAny_mono h₅ (fun x s₆ h₆ => wpAny_bind (wpAny_standAt (wpAny_holding (nn (wpAny_mono h₆ (fun _ s₇ h₇ => wpAny_pure ⟨rfl, h₇⟩) fun _ _ h' => h'))))) fun _ _ h' => h')))) fun _ _ h' => h')))

/-- what the comprehension's walk asks of its turns -/
noncomputable abbrev KDe (xs : List Str) (m₁ : Vm) (J : Nat → List (Int × Value) → Wd → Led → Prop) (i : Nat) (ys : List (Int × Value)) : Option (Value × Value) → Vm → Wd → Led → Prop := fun y m W X => match y with
  | some y => ∃ k t, y.1 = .int k t ∧ Ag xs m m₁ ∧ J (i + 1) (stored ys k y.2) W X
  | none => Ag xs m m₁ ∧ J (i + 1) ys W X
noncomputable abbrev KDn3 (prog : Program) (w : World) (A : Around) (env : Env) (g : Org) (vx : Expr) (T : Option (Value × Value) → Vm → Wd → Led → Prop) : Value → Vm → Wd → Led → Prop := fun k m W X => Tr prog w A env g m W X (eval vx env) (KDn4 T k)
noncomputable abbrev KDn2 (prog : Program) (w : World) (A : Around) (env : Env) (g : Org) (kx vx : Expr) (T : Option (Value × Value) → Vm → Wd → Led → Prop) : Bool → Vm → Wd → Led → Prop := fun ok m W X => if ok = true then Tr prog w A env g m W X (eval kx env) (KDn3 prog w A env g vx T) else T none m W X
noncomputable abbrev KDn (prog : Program) (w : World) (A : Around) (env : Env) (g : Org) (ifs : List Expr) (kx vx : Expr) (T : Option (Value × Value) → Vm → Wd → Led → Prop) : Unit → Vm → Wd → Led → Prop := fun _ m W X => Tr prog w A env g m W X (tst env ifs) (KDn2 prog w A env g kx vx T)
noncomputable def TurnsD (prog : Program) (w : World) (A : Around) (env : Env) (m₁ : Vm) (W₁ : Wd) (tgt kx vx : Expr) (ifs : List Expr) (scope : Scope) (cl : List (Str × Addr)) (xs : List Str) (n : Nat) (P : Nat → Value → Prop) (J : Nat → List (Int × Value) → Wd → Led → Prop) : Prop :=
  ∀ C i ys v mi W' X' g', i < n → P i v → Le W₁ W' → Ag xs mi (cmv (compEnvC scope cl C env) m₁) → J i ys W' X' → ys.length ≤ i → ∀ T, Hid (KDe xs (cmv (compEnvC scope cl C env) m₁) J i ys) T →
    ∀ Gq : Value → Led → Prop, (∀ v X', Imp (Tr prog w A (compEnvC scope cl C env) g' mi W' X' (assign tgt (compEnvC scope cl C env) v) (KDn prog w A (compEnvC scope cl C env) g' ifs kx vx T)) (Gq v X')) → Gq v X'
theorem TurnsD.go {prog : Program} {w : World} {A : Around} {env : Env} {m₁ : Vm} {W₁ : Wd} {tgt kx vx : Expr} {ifs : List Expr} {scope : Scope} {cl : List (Str × Addr)} {xs : List Str} {n : Nat} {P : Nat → Value → Prop} {J : Nat → List (Int × Value) → Wd → Led → Prop}
    (h : TurnsD prog w A env m₁ W₁ tgt kx vx ifs scope cl xs n P J) {C : Addr} {i : Nat} {ys : List (Int × Value)} {v : Value} {mi : Vm} {W' : Wd} {X' : Led} (g' : Org) (hi : i < n) (hP : P i v) (le : Le W₁ W') (ag : Ag xs mi (cmv (compEnvC scope cl C env) m₁)) (j : J i ys W' X') (hl : ys.length ≤ i) :
    Tr prog w A (compEnvC scope cl C env) g' mi W' X' (assign tgt (compEnvC scope cl C env) v) (KDn prog w A (compEnvC scope cl C env) g' ifs kx vx (KDe xs (cmv (compEnvC scope cl C env) m₁) J i ys)) :=
  h C i ys v mi W' X' g' hi hP le ag j hl _ .rfl (fun v X' => Tr prog w A (compEnvC scope cl C env) g' mi W' X' (assign tgt (compEnvC scope cl C env) v) (KDn prog w A (compEnvC scope cl C env) g' ifs kx vx (KDe xs (cmv (compEnvC scope cl C env) m₁) J i ys))) fun _ _ h => h
inductive CpD (prog : Program) (w : World) (A : Around) (env : Env) (tgt kx vx : Expr) (ifs : List Expr) (scope : Scope) (cl : List (Str × Addr)) (xs : List Str) (F : Addr → Obj → Vm → Wd → Led → Prop) (v : Value) (m₁ : Vm) (W₁ : Wd) (X₁ : Led) : Prop
  | mk (X₂ : Led) (n : Nat) (P : Nat → Value → Prop) (it : Itr prog w A W₁ X₁ v X₂ n P) (hz : n ≤ sizeLine) (J : Nat → List (Int × Value) → Wd → Led → Prop) (j0 : J 0 [] W₁ X₂) (turn : TurnsD prog w A env m₁ W₁ tgt kx vx ifs scope cl xs n P J)
    (fin : ∀ a o ys W' X', Le W₁ W' → o.IsDictOf (intKind prog w) ys → ys.length ≤ n → J n ys W' X' → W' a = none → a ∉ adr X' → (∀ b o, W₁ b = some o → b < a) → ∀ Gq : Led → Prop, (∀ X', Imp (F a o m₁ W' X') (Gq X')) → Gq X') : CpD prog w A env tgt kx vx ifs scope cl xs F v m₁ W₁ X₁

theorem cp_coreD {tgt kx vx iter : Expr} {ifs : List Expr} {scope : Scope} {pos : Pos} {cl : List (Str × Addr)} {xs : List Str} {use : Option (Value → Sem Unit)} {Q : Value → Vm → Wd → Led → Prop} {ip : Pos}
    (hs : ∀ x, foldedSetIterable iter env x = pure x) (hclos : closureFor scope env = pure cl) (hcell : ∀ y ∈ scope.names, y.2 ≠ .cell) (hkind : scope.kind = .function) (hnames : ∀ y ∈ scope.names, y.2 = .local → scope.names.lookup y.1 = some .local)
    (hcl : ∀ p ∈ cl, env.cells.lookup p.1 = some p.2) (hxs : ∀ p ∈ cl, xs.contains p.1 = false ∧ ((relabel scope env).names.lookup p.1 == some .local) = false)
    (h : Tr prog w A env g m W X (eval iter env) (CpD prog w A env tgt kx vx ifs scope cl xs (FU prog w A env use Q))) :
    Tr prog w A env g m W X (comprehension (.DictComp kx vx [⟨tgt, iter, ifs, 0⟩] scope pos) scope env ip newDict false (eval iter env) use) Q := .mk fun s C => by
  refine wpAny_comprehension_free (g := ⟨tgt, iter, ifs, 0⟩) (gs := []) rfl hs hclos hkind hnames (h.go C fun v s₁ m₁ W₁ X₁ C₁ h₁ => ?_)
  refine und fun Gq hGq => ?_
  obtain ⟨X₂, n, P, it, hz, J, j0, turn, done⟩ := h₁
  refine hGq ?_
  clear hGq Gq
  refine wpAny_mono (it.run s₁ C₁.adv.st) (fun r s₂ h₂ => ?_) fun _ _ x => x
  refine und fun Gq hGq => ?_
  obtain ⟨I, fp, wr, SI, h₂, tk₂, rfl, rfl, wk, si, up, hfp, hwr, live, lo⟩ := h₂
  refine hGq ?_
  clear hGq Gq
  refine wpAny_newObj_type (wpAny_newFunctionEnv hcell (by intro y hy; simp at hy) (fun h₄ hns₄ hsb₄ => ?_) hkind)
  dsimp only at hns₄ hsb₄ ⊢
  generalize hH : h₂.push { cls := .type "dict", dict := none, data := .dict #[] } = H at hns₄ hsb₄ ⊢
  generalize hDn : h₂.objs.size = D
  generalize hCn : H.objs.size = Cn at hns₄ hsb₄ ⊢
  have hDC : Cn = D + 1 := by rw [← hCn, ← hH, Heap.size_push, hDn]
  have hDCn : D ≠ Cn := by rw [hDC]; exact Nat.ne_of_lt (Nat.lt_succ_self _)
  have leB : ∀ b : Addr, b = D → D ≤ b := fun b q => Nat.le_of_eq q.symm
  have leC : ∀ b : Addr, b = Cn → D ≤ b := fun b q => by rw [q, hDC]; exact Nat.le_succ _
  have fr2 : ∀ a, D ≤ a → h₂.get? a = none := fun a ha => by
    cases q : h₂.get? a with
    | none => rfl
    | some o => exact absurd (Heap.lt_size q) (by rw [hDn]; exact Nat.not_lt.mpr ha)
  have fr1 : ∀ a, D ≤ a → s₁.heap.get? a = none := fun a ha => by
    cases q : s₁.heap.get? a with
    | none => rfl
    | some o => have := up a o q; rw [fr2 a ha] at this; cases this
  have up4 : ∀ b o, h₂.get? b = some o → h₄.get? b = some o := fun b o e => by
    have hb := Heap.lt_size e
    rw [hDn] at hb
    refine hsb₄.extBut b o (Nat.ne_of_lt (Nat.lt_trans hb (by rw [hDC]; exact Nat.lt_succ_self _))) (Heap.get?_push_of_some _ ?_)
    rw [← hH]; exact Heap.get?_push_of_some _ e
  have hD4 : DAt prog w h₄ D [] := by
    refine ⟨emptyD, hsb₄.extBut D _ (by rw [hDC]; exact Nat.ne_of_lt (Nat.lt_succ_self _)) (Heap.get?_push_of_some _ ?_), emptyD_is prog w⟩
    rw [← hH, ← hDn]; exact Heap.get?_push_size _ rfl
  have fW : ∀ a, s₁.heap.get? a = none → W₁ a = none ∧ a ∉ adr X₁ := fun a ha => by
    refine ⟨?_, fun hm => ?_⟩
    · cases q : W₁ a with
      | none => rfl
      | some o => rw [C₁.adv.st.w a o q] at ha; cases ha
    · obtain ⟨o, hm⟩ := mem_adr.mp hm
      rw [C₁.adv.st.x a o hm] at ha; cases ha
  have subX : ∀ a, a ∈ adr X₂ → a ∈ adr X₁ := fun a ha => by obtain ⟨o, hm⟩ := mem_adr.mp ha; exact mem_adr_of (it.sub _ hm)
  have own : ∀ b, Own env b → (∃ o, s₁.heap.get? b = some o) ∧ b ∉ adr X₁ := fun b hb => by
    rcases hb with rfl | ⟨x, hx⟩
    · obtain ⟨ml, ⟨o, _, _, e, _⟩, _⟩ := C₁.fm.loc
      exact ⟨⟨o, e⟩, C₁.fm.lx⟩
    · obtain ⟨⟨o, e, _⟩, _, c3, _⟩ := C₁.fm.cel x b hx
      exact ⟨⟨o, e⟩, c3⟩
  have lk : ∀ {x : Str} {a : Addr}, cl.lookup x = some a → env.cells.lookup x = some a := fun {x a} e => hcl (x, a) (mem_of_lookup e)
  let cenv := compEnvC scope cl Cn env
  let g₂ : Org := ⟨fun a => a ∈ adr X₁ ∨ ∃ x, cl.lookup x = some a, W₁, s₁⟩
  let B : Addr → Prop := fun b => (b ∈ fp ∧ W₁ b = none) ∨ b = D
  have C4 : Cur cenv (cmv cenv m₁) g₂ W₁ X₂ { s₁ with heap := h₄, toks := tk₂ + 0 } := by
    have st1 := C₁.adv.st.perm it.sub (it.nd C₁.adv.st.nd)
    refine ⟨⟨⟨h₄, _, rfl⟩, ⟨fun b o e => up4 b o (up b o (st1.w b o e)), fun b o e => up4 b o (up b o (st1.x b o e)), st1.xw, st1.nd⟩, Le.refl _, fun b o e _ => up4 b o (up b o e), fun b o e => .inl e, fun b hb => .inl (.inl (subX b hb))⟩,
      ⟨⟨_, hns₄, fun x hx => ?_⟩, (fW Cn (fr1 Cn (by omega))).1, fun hm => (fW Cn (fr1 Cn (by omega))).2 (subX _ hm), fun x a hc => ?_, fun x y a hx hy => C₁.fm.inj x y a (lk hx) (lk hy)⟩, fun a ha => ?_⟩
    · unfold cmv
      rw [hx]; simp
    · obtain ⟨⟨oc, hoc, hd⟩, c2, c3, c4⟩ := C₁.fm.cel x a (lk hc)
      have e : cmv cenv m₁ x = m₁ x := cmv_of (hxs (x, a) (mem_of_lookup hc)).2 rfl
      rw [e]
      exact ⟨⟨oc, up4 _ _ (up _ _ hoc), hd⟩, c2, fun hm => c3 (subX _ hm), fun q => by
        have := fr1 a (by rw [q]; show D ≤ Cn; omega)
        rw [this] at hoc; cases hoc⟩
    · rcases ha with e | ⟨x, hx⟩
      · exact .inr (fr1 a (by rw [e]; show D ≤ Cn; omega))
      · exact .inl (.inr ⟨x, hx⟩)
  have notOwn : ∀ b, B b → ¬ Own cenv b := fun b q ho => by
    rcases ho with e | ⟨x, hx⟩
    · rcases q with ⟨q1, q2⟩ | q
      · obtain ⟨o, eo⟩ := live 0 h₂ si b q1
        rw [fr2 b (by rw [e]; show D ≤ Cn; omega)] at eo; cases eo
      · have e' : b = Cn := e
        exact absurd (q.symm.trans e') hDCn
    · obtain ⟨⟨o, e⟩, hx'⟩ := own b (.inr ⟨x, lk hx⟩)
      rcases q with ⟨q1, q2⟩ | q
      · rcases hfp b q1 with ⟨o', e'⟩ | ⟨_, _, hn | hm⟩
        · rw [q2] at e'; cases e'
        · rw [hn] at e; cases e
        · exact hx' hm
      · rw [fr1 b (leB b q)] at e; cases e
  have d4 : Side cenv g₂ W₁ X₂ B := by
    refine ⟨fun b q => ?_, fun b q hm => ?_, notOwn, fun b q => ?_⟩
    · rcases q with q | q
      · exact q.2
      · exact (fW b (fr1 b (leB b q))).1
    · rcases q with ⟨q1, q2⟩ | q
      · rcases hfp b q1 with ⟨o, e⟩ | ⟨_, hx, _⟩
        · rw [q2] at e; cases e
        · exact hx hm
      · exact (fW b (fr1 b (leB b q))).2 (subX b hm)
    · rcases q with ⟨q1, q2⟩ | q
      · rcases hfp b q1 with ⟨o', e'⟩ | ⟨_, _, hn | hm⟩
        · rw [q2] at e'; cases e'
        · exact .inr hn
        · exact .inl (.inl hm)
      · exact .inr (fr1 b (leB b q))
  have si4 : SI 0 h₄ := wk.frame _ _ _ si fun b _ o e => up4 b o e
  -- the end of the whole
  have fin : ∀ s' mi W' X' ys, Cur cenv mi g₂ W' X' s' → Ag xs mi (cmv cenv m₁) → Side cenv g₂ W' X' B → DAt prog w s'.heap D ys → J n ys W' X' → ys.length ≤ n → Le W₁ W' →
      compPost (model prog w) A no use (fun v s' => ∃ m' W' X', Cur env m' g W' X' s' ∧ Q v m' W' X') (.ref D) Cn (.ok .next) s' := fun s' mi W' X' ys C' ag sd hl j hlen le => by
    have Ce : Cur env m₁ g W' X' s' := by
      refine ⟨C₁.adv.trans (g' := g₂) C'.adv fun a ha => ?_, ⟨?_, ?_, ?_, fun x a hc => ?_, C₁.fm.inj⟩, C₁.ok⟩
      · rcases ha with ha | ⟨x, hx⟩
        · exact C₁.adv.xfr a ha
        · exact C₁.ok a (.inr ⟨x, lk hx⟩)
      · obtain ⟨ml, ⟨o, es, ep, ho, r1, r2, r3⟩, hm⟩ := C₁.fm.loc
        refine ⟨ml, ⟨o, es, ep, (C'.adv.old (g := g₂) ho C₁.fm.lw fun q => ?_).1, r1, r2, r3⟩, hm⟩
        rcases q with q | ⟨x, q⟩
        · exact C₁.fm.lx q
        · exact (C₁.fm.cel x _ (lk q)).2.2.2 rfl
      · obtain ⟨ml, ⟨o, es, ep, ho, r1, r2, r3⟩, hm⟩ := C₁.fm.loc
        refine (C'.adv.old (g := g₂) ho C₁.fm.lw fun q => ?_).2.1
        rcases q with q | ⟨x, q⟩
        · exact C₁.fm.lx q
        · exact (C₁.fm.cel x _ (lk q)).2.2.2 rfl
      · obtain ⟨ml, ⟨o, es, ep, ho, r1, r2, r3⟩, hm⟩ := C₁.fm.loc
        refine (C'.adv.old (g := g₂) ho C₁.fm.lw fun q => ?_).2.2
        rcases q with q | ⟨x, q⟩
        · exact C₁.fm.lx q
        · exact (C₁.fm.cel x _ (lk q)).2.2.2 rfl
      · obtain ⟨⟨oc, hoc, hd⟩, c2, c3, c4⟩ := C₁.fm.cel x a hc
        by_cases q : ∃ y, cl.lookup y = some a
        · obtain ⟨y, hy⟩ := q
          obtain rfl : x = y := C₁.fm.inj x y a hc (lk hy)
          refine und fun Gq hGq => ?_
          obtain ⟨k1, k2, k3, _⟩ := C'.fm.cel x a hy
          refine hGq ?_
          clear hGq Gq
          have := hxs (x, a) (mem_of_lookup hy)
          rw [ag_get ag this.1 this.2 rfl] at k1
          exact ⟨k1, k2, k3, c4⟩
        · obtain ⟨k1, k2, k3⟩ := C'.adv.old (g := g₂) hoc c2 fun z => z.elim c3 q
          exact ⟨⟨oc, k1, hd⟩, k2, k3, c4⟩
    refine und fun Gq hGq => ?_
    obtain ⟨oD, hoD, hO⟩ := hl
    have sdE : Side env g W' X' (fun b => b = D ∨ b = Cn) := by
      refine ⟨fun b q => ?_, fun b q => ?_, fun b q ho => ?_, fun b q => ?_⟩
      · rcases q with rfl | rfl
        · exact sd.w _ (.inr rfl)
        · exact C'.fm.lw
      · rcases q with rfl | rfl
        · exact sd.x _ (.inr rfl)
        · exact C'.fm.lx
      · obtain ⟨⟨o, e⟩, _⟩ := own b ho
        rw [fr1 b (q.elim (leB b) (leC b))] at e; cases e
      · cases e : g.s.heap.get? b with
        | none => exact .inr rfl
        | some o =>
          refine .inl (Classical.byContradiction fun hx => ?_)
          have := C₁.adv.keep b o e hx
          rw [fr1 b (q.elim (leB b) (leC b))] at this; cases this
    have Ct := Ce.take sdE (.inl rfl) hoD
    obtain ⟨ml, hnC, _⟩ := C'.fm.loc
    refine hGq ?_
    clear hGq Gq
    have sdC : Side env g W' ((D, oD) :: X') (fun b => b = Cn) := by
      refine ⟨fun b q => sdE.w b (.inr q), fun b q hm => ?_, fun b q => sdE.own b (.inr q), fun b q => sdE.org b (.inr q)⟩
      rw [adr_cons] at hm
      rcases List.mem_cons.mp hm with e | hm
      · have e' : b = D := e
        exact absurd (e'.symm.trans q) hDCn
      · exact sdE.x b (.inr q) hm
    have dn : FU prog w A env use Q D oD m₁ W' X' := done D oD ys W' X' le hO hlen j (sd.w _ (.inr rfl)) (sd.x _ (.inr rfl)) (fun b o e => by have := Heap.lt_size (up b o (C₁.adv.st.w b o e)); rw [hDn] at this; exact this) _ fun _ h => h
    cases use with
    | none => exact ⟨ml, hnC, fun h' hs' => ⟨_, _, _, Ct.side (tk := s'.toks) sdC fun b o q e => hs'.extBut b o q e, dn⟩⟩
    | some u =>
      show wpAny (model prog w) A (u (.ref D)) _ no s'
      refine und fun Gq hGq => ?_
      obtain ⟨oC, esC, epC, hoC, r1, r2, r3⟩ := hnC
      refine hGq ?_
      clear hGq Gq
      refine (dn (orgL env W' ((D, oD) :: X') s')).go Ct.self fun _ s'' m'' W'' X'' C'' q => ?_
      have Cb := Ct.back C''
      obtain ⟨sd'', kp⟩ := sdC.go Ct (fun b q => by have q' : b = Cn := q; subst q'; exact ⟨oC, hoC⟩) C''
      exact ⟨ml, ⟨oC, esC, epC, kp Cn oC rfl hoC, r1, r2, r3⟩, fun h' hs' => ⟨_, _, _, Cb.side (tk := s''.toks) sd'' fun b o q e => hs'.extBut b o q e, q⟩⟩
  have loop : ∀ s₄ : Shared, s₄ = { s₁ with heap := h₄, toks := tk₂ + 0 } →
      codeAny (model prog w) A (.compLoop (.DictComp kx vx [⟨tgt, iter, ifs, 0⟩] scope pos) 0 (.ref I) (.ref D) cenv) (compPost (model prog w) A no use (fun v s' => ∃ m' W' X', Cur env m' g W' X' s' ∧ Q v m' W' X') (.ref D) Cn) s₄ := by
    rintro s₄ rfl
    refine cp_turnsD (fun k s' => ∃ i mi W' X' ys, k = n + 1 - i ∧ i ≤ n ∧ Cur cenv mi g₂ W' X' s' ∧ Ag xs mi (cmv cenv m₁) ∧ Le W₁ W' ∧ Side cenv g₂ W' X' B ∧ SI i s'.heap ∧ DAt prog w s'.heap D ys ∧ ys.length ≤ i ∧ J i ys W' X') ?_ (n + 1)
      ⟨0, _, W₁, X₂, [], rfl, Nat.zero_le _, C4, Ag.refl, Le.refl _, d4, si4, hD4, Nat.le_refl _, j0⟩
    intro k s' hJ1
    refine und fun Gq hGq => ?_
    obtain ⟨i, mi, W', X', ys, rfl, hi, C', ag, le, sd, si', hl, hlen, j⟩ := hJ1
    refine hGq ?_
    clear hGq Gq
    have Dfp : D ∉ fp := fun hm => by
      obtain ⟨o, eo⟩ := live 0 h₂ si D hm
      rw [fr2 D (Nat.le_refl _)] at eo; cases eo
    have sdw : Side cenv g₂ W' X' (fun b => b ∈ wr) := ⟨fun b q => sd.w b (.inl ⟨wk.sub b q, hwr b q⟩), fun b q => sd.x b (.inl ⟨wk.sub b q, hwr b q⟩), fun b q => sd.own b (.inl ⟨wk.sub b q, hwr b q⟩), fun b q => sd.org b (.inl ⟨wk.sub b q, hwr b q⟩)⟩
    by_cases hlt : i < n
    · refine wk.item i s' _ no hlt si' fun v h₅ tk₅ pv si₅ hk₅ => ?_
      have C₅ : Cur cenv mi g₂ W' X' { s' with heap := h₅, toks := tk₅ } := C'.side sdw hk₅
      have hl₅ : DAt prog w h₅ D ys := DAt.at hl fun o e => hk₅ D o (fun q => Dfp (wk.sub D q)) e
      refine lo (i + 1) { s' with heap := h₅, toks := tk₅ } tgt v _ si₅ ?_
      have T := turn.go (orgL cenv W' X' { s' with heap := h₅, toks := tk₅ }) hlt pv le ag j hlen
      have after : ∀ (s₆ : Shared) m₆ W₆ X₆, Cur cenv m₆ (orgL cenv W' X' { s' with heap := h₅, toks := tk₅ }) W₆ X₆ s₆ → Side cenv g₂ W₆ X₆ B ∧ SI (i + 1) s₆.heap ∧ DAt prog w s₆.heap D ys := fun s₆ m₆ W₆ X₆ C₆ => by
        obtain ⟨sd₆, kp⟩ := sd.go C₅ (fun b q => by
          rcases q with q | q
          · exact live _ _ si₅ b q.1
          · subst q; obtain ⟨o, e, _⟩ := hl₅; exact ⟨o, e⟩) C₆
        refine ⟨sd₆, wk.frame _ _ _ si₅ fun b hb o e => ?_, DAt.at hl₅ fun o e => kp D o (.inr rfl) e⟩
        cases q : W₁ b with
        | none => exact kp b o (.inl ⟨hb, q⟩) e
        | some o' =>
          have e' := C₅.adv.st.w b o' (le b o' q)
          rw [e] at e'; cases e'
          exact C₆.adv.st.w b o (C₆.adv.sub b o (le b o q))
      refine T.go C₅.self fun _ s₆ m₆ W₆ X₆ C₆ h₆ => h₆.go C₆ fun ok s₇ m₇ W₇ X₇ C₇ h₇ => ?_
      cases ok with
      | false =>
        refine und fun Gq hGq => ?_
        obtain ⟨ag', j'⟩ := h₇
        obtain ⟨sd', si'', hl'⟩ := after s₇ m₇ W₇ X₇ C₇
        refine hGq ?_
        clear hGq Gq
        exact ⟨n + 1 - (i + 1), by omega, i + 1, m₇, W₇, X₇, ys, rfl, hlt, C₅.back C₇, ag', le.trans C₇.adv.sub, sd', si'', hl', Nat.le_succ_of_le hlen, j'⟩
      | true =>
        refine Tr.go h₇ C₇ fun kv s₈ m₈ W₈ X₈ C₈ h₈ => h₈.go C₈ fun y s₈ m₈ W₈ X₈ C₈ h₈ => ?_
        refine und fun Gq hGq => ?_
        obtain ⟨k, t, rfl, ag', j'⟩ := h₈
        obtain ⟨sd', si'', hl'⟩ := after s₈ m₈ W₈ X₈ C₈
        obtain ⟨oK, eK, dK⟩ := hl'
        refine hGq ?_
        clear hGq Gq
        refine wpAny_dictSet_pairs (knd := intKind prog w) (intKind_is prog w k t) (Heap.dictOf_iff.mpr ⟨oK, eK, dK⟩) (fun h₉ hl₉ hs₉ => ?_) (by omega)
        refine ⟨n + 1 - (i + 1), by omega, i + 1, m₈, W₈, X₈, stored ys k y, rfl, hlt, (C₅.back C₈).side (B := fun b => b = D) ⟨fun b q => sd'.w b (.inr q), fun b q => sd'.x b (.inr q), fun b q => sd'.own b (.inr q), fun b q => sd'.org b (.inr q)⟩ fun b o q e => hs₉.extBut b o q e, ag', le.trans C₈.adv.sub, sd', ?_, Heap.dictOf_iff.mp hl₉, Nat.le_trans (stored_length_le ys k y) (Nat.succ_le_succ hlen), j'⟩
        exact wk.frame _ _ _ si'' fun b hb o e => hs₉.extBut b o (fun q => Dfp (q ▸ hb)) e
    · obtain rfl : i = n := by omega
      refine wk.done s' _ no si' fun h₅ tk₅ hk₅ => ?_
      exact fin _ mi W' X' ys (C'.side sdw hk₅) ag sd (DAt.at hl fun o e => hk₅ D o (fun q => Dfp (wk.sub D q)) e) j hlen le
  exact codeAny_compStart_dict (loop _ rfl) (wk.self 0 _ _ _ si4 (loop _ rfl))
/-- a list comprehension, its value kept -/
theorem ev_compD {tgt kx vx iter : Expr} {ifs : List Expr} {scope : Scope} {pos : Pos} {cl : List (Str × Addr)} (xs : List Str) {Q : Value → Vm → Wd → Led → Prop}
    (hs : ∀ x, foldedSetIterable iter env x = pure x) (hclos : closureFor scope env = pure cl) (hcell : ∀ y ∈ scope.names, y.2 ≠ .cell) (hkind : scope.kind = .function) (hnames : ∀ y ∈ scope.names, y.2 = .local → scope.names.lookup y.1 = some .local)
    (hcl : ∀ p ∈ cl, env.cells.lookup p.1 = some p.2) (hxs : ∀ p ∈ cl, xs.contains p.1 = false ∧ ((relabel scope env).names.lookup p.1 == some .local) = false)
    (h : Tr prog w A env g m W X (eval iter env) (CpD prog w A env tgt kx vx ifs scope cl xs (FQ Q))) :
    Tr prog w A env g m W X (eval (.DictComp kx vx [⟨tgt, iter, ifs, 0⟩] scope pos) env) Q := by
  rw [arm_eval_DictComp]
  exact cp_coreD (use := none) hs hclos hcell hkind hnames hcl hxs h
end
end
section -- Lf
/-! functions of a line -/
inductive CodeW (W : Wd) (c P : Addr) : Prop
  | mk (o) (vs) (file) (tf) (flags) (tg) (inF) (text) (tt) (h1 : W c = some o) (h2 : o.cls = .type "code") (h3 : o.data = .fields vs) (h4 : vs[11]? = some (.ref P)) (h5 : vs.getD 11 .none = .ref P) (h6 : vs.getD 18 .none = .str file tf) (h7 : vs.getD 7 .none = .int flags tg) (h8 : vs.getD 9 .none = .bool inF) (h9 : vs.getD 10 .none = .int text tt) (h10 : c ≠ P) : CodeW W c P
theorem CodeW.up {W W' : Wd} {c P : Addr} (h : CodeW W c P) (le : Le W W') : CodeW W' c P := let ⟨o, vs, file, tf, flags, tg, inF, text, tt, e, h2, h3, h4, h5, h6, h7, h8, h9, h10⟩ := h; ⟨o, vs, file, tf, flags, tg, inF, text, tt, le _ _ e, h2, h3, h4, h5, h6, h7, h8, h9, h10⟩
theorem CodeW.hd {W : Wd} {X : Led} {c P : Addr} {h : Heap} (S : St W X h) (x : CodeW W c P) : CodeHd h c P := let ⟨o, vs, file, tf, flags, tg, inF, text, tt, e, h2, h3, h4, h5, h6, h7, h8, h9, h10⟩ := x; ⟨o, vs, file, tf, flags, tg, inF, text, tt, S.w _ _ e, h2, h3, h4, h5, h6, h7, h8, h9, h10⟩
inductive RecW (W : Wd) (c : Addr) (q : Str) : Prop
  | mk (o) (vs) (t) (h1 : W c = some o) (h2 : o.data = .fields vs) (h3 : vs[1]? = some (.str q t)) : RecW W c q
theorem RecW.up {W W' : Wd} {c : Addr} {q : Str} (h : RecW W c q) (le : Le W W') : RecW W' c q := let ⟨o, vs, t, e, h1, h2⟩ := h; ⟨o, vs, t, le _ _ e, h1, h2⟩
/-- the table of a code's lines: not yet met, or met -/
noncomputable def TabW (W : Wd) (pos : Pos) (q : Str) (ps : Array Value) : Prop := ps = #[] ∨ ∃ c, ps = #[rawInt pos.line, rawInt pos.col, .ref c] ∧ RecW W c q
theorem TabW.up {W W' : Wd} {pos : Pos} {q : Str} {ps : Array Value} (h : TabW W pos q ps) (le : Le W W') : TabW W' pos q ps := h.elim .inl fun ⟨c, e, r⟩ => .inr ⟨c, e, r.up le⟩
theorem codeAmong_hit (pos : Pos) (c : Value) : codeAmong pos [rawInt pos.line, rawInt pos.col, c] = some c := codeAmong_snoc [] trivial rfl
section
variable {prog : Program} {w : World} {A : Around} {env : Env} {g : Org} {m : Vm} {W : Wd} {X : Led} {s : Shared}
/-- the first of X turns, others are born -/
theorem Adv.setExt {W' : Wd} {X' : Led} {s' : Shared} {a : Addr} {o o' : Obj} {h' : Heap} (D : Adv g W' ((a, o) :: X') s') (hs : Heap.ExtBut a s'.heap h') (ho : h'.get? a = some o') (tk : Nat) :
    Adv g W' ((a, o') :: X') { s' with heap := h', toks := tk } := by
  have nd := D.st.nd
  rw [adr_cons] at nd
  obtain ⟨n1, n2⟩ := List.nodup_cons.mp nd
  have hw := D.st.xw a o List.mem_cons_self
  refine ⟨let ⟨h, t, e⟩ := D.rest; ⟨_, tk, by rw [e]⟩, ⟨fun b p e => ?_, fun b p m => ?_, fun b p m => ?_, D.st.nd⟩, D.sub, fun b p e hx => ?_, D.fr, D.xfr⟩
  · have : b ≠ a := fun q => by rw [q, hw] at e; cases e
    exact hs b p this (D.st.w b p e)
  · rcases List.mem_cons.mp m with e | m
    · cases e; exact ho
    · have : b ≠ a := fun q => n1 (q ▸ mem_adr_of m)
      exact hs b p this (D.st.x b p (List.mem_cons_of_mem _ m))
  · rcases List.mem_cons.mp m with e | m
    · cases e; exact hw
    · exact D.st.xw b p (List.mem_cons_of_mem _ m)
  · have : b ≠ a := fun q => by
      subst q
      rcases D.xfr b (by rw [adr_cons]; exact List.mem_cons_self) with h | h
      · exact hx h
      · rw [h] at e; cases e
    exact hs b p this (D.keep b p e hx)
theorem Cur.setExt {a : Addr} {o o' : Obj} {h' : Heap} (C : Cur env m g W ((a, o) :: X) s) (hs : Heap.ExtBut a s.heap h') (ho : h'.get? a = some o') (tk : Nat) : Cur env m g W ((a, o') :: X) { s with heap := h', toks := tk } :=
  C.go ((Adv.org C.adv.st).setExt hs ho tk)

theorem ev_lam {K : Frag} {P c : Addr} {ps : Array Value} {params : Arguments} {body : Expr} {scope : Scope} {pos : Pos} {clos : List (Str × Addr)} {Q : Value → Vm → Wd → Led → Prop} (G : GW w K W) (hge : env.globals = mainGlobals) (hcode : env.code = .ref c) (hC : CodeW W c P)
    (hT : TabW W pos (env.qual ++ "<lambda>") ps) (hdef : defaultsOf params env = ([], [])) (hcl : closureFor scope env = pure clos)
    (h : ∀ q c' pm ctv W' ps', W' q = some (kla_obj "<lambda>" (env.qual ++ "<lambda>") params body scope clos pm c' ctv) → RecW W' c' (env.qual ++ "<lambda>") → TabW W' pos (env.qual ++ "<lambda>") ps' → Le W W' → Q (.ref q) m W' ((P, tabObj ps') :: X)) :
    Tr prog w A env g m W ((P, tabObj ps) :: X) (eval (.Lambda params body scope pos) env) Q := .mk fun s C => by
  refine und fun Gq hGq => ?_
  obtain ⟨h₀, p, loose, mean, mg, mb, X₀, T, hk⟩ := G.ex
  have up : ∀ a o, h₀.get? a = some o → s.heap.get? a = some o := fun a o q => C.adv.st.w a o (hk a o q)
  have hgs := T.g.keeps up
  have hgP := C.adv.st.xw P _ List.mem_cons_self
  have nW : ∀ a o, h₀.get? a = some o → a ≠ P := fun a o e q => by rw [q] at e; rw [hk _ _ e] at hgP; cases hgP
  have hgne : mainGlobals ≠ P := by obtain ⟨o, es, ep, e, _⟩ := T.g; exact nW _ _ e
  obtain ⟨bm, ob, b1, b2, b3, b4, b5, b6⟩ := T.bmain
  refine hGq ?_
  clear hGq Gq
  have hbP : bm ≠ P := nW _ _ b3
  have hbG : bm ≠ mainGlobals := fun q => by
    refine und fun Gq hGq => ?_
    obtain ⟨o, es, ep, e, hd, _⟩ := T.g
    refine hGq ?_
    clear hGq Gq
    rw [q, e] at b3; cases b3; rw [hd] at b6; cases b6
  have hB : s.heap.BuiltinsAt mg P := ⟨bm, ob, b1, b2, hbG, hbP, up _ _ b3, b4, b5, b6⟩
  have hP := C.adv.st.x P _ List.mem_cons_self
  have CH := hC.hd C.adv.st
  refine kla_eval hdef ?_
  rcases hT with rfl | ⟨c₀, rfl, hrec⟩
  · refine kla_makeFunction (mg := mg) hcl hge hgs hcode CH hP trivial rfl hgne hB fun c' ctv h' tk hx hge' hlt hrec htb => ?_
    have C1 := C.setExt hx htb tk
    refine und fun Gq hGq => ?_
    obtain ⟨c₂, oc, vs, t, e2, hoc, hd, hv⟩ := hrec
    refine hGq ?_
    clear hGq Gq
    cases e2
    have hc0 : s.heap.get? c' = none := Heap.get?_none_of_le hge'
    have hW0 : W c' = none := by
      cases q : W c' with
      | none => rfl
      | some o => rw [C.adv.st.w _ _ q] at hc0; cases hc0
    have C2 : Cur env m g (put W c' oc) ((P, tabObj (#[] ++ #[rawInt pos.line, rawInt pos.col, Value.ref c'])) :: X) { s with heap := h', toks := tk } := by
      have hx0 : c' ∉ adr ((P, tabObj #[]) :: X) := fun hm => by
        obtain ⟨o, hm⟩ := mem_adr.mp hm
        rw [C.adv.st.x _ _ hm] at hc0; cases hc0
      have sd : Side env g W ((P, tabObj (#[] ++ #[rawInt pos.line, rawInt pos.col, Value.ref c'])) :: X) (fun b => b = c') := by
        refine ⟨fun b q => by rw [q]; exact hW0, fun b q hm => hx0 (by rw [q] at hm; exact hm), fun b q ho => ?_, fun b q => ?_⟩
        · subst q
          rcases ho with e | ⟨x, hx⟩
          · obtain ⟨ml, ⟨o, _, _, e', _⟩, _⟩ := C.fm.loc
            rw [← e, hc0] at e'; cases e'
          · obtain ⟨⟨o, e, _⟩, _⟩ := C.fm.cel x _ hx
            rw [hc0] at e; cases e
        · subst q
          cases e : g.s.heap.get? b with
          | none => exact .inr rfl
          | some o => exact .inl (Classical.byContradiction fun hx => by rw [C.adv.keep _ o e hx] at hc0; cases hc0)
      exact (C1.take sd rfl hoc).freeze.1
    have B := C2.pushW (kla_obj "<lambda>" (env.qual ++ "<lambda>") params body scope clos ((mg "__name__").getD .none) c' ctv)
    have le1 := put_le (o := oc) hW0
    have le2 := put_le (o := kla_obj "<lambda>" (env.qual ++ "<lambda>") params body scope clos ((mg "__name__").getD .none) c' ctv) B.2
    have R' : RecW (put (put W c' oc) h'.objs.size (kla_obj "<lambda>" (env.qual ++ "<lambda>") params body scope clos ((mg "__name__").getD .none) c' ctv)) c' (env.qual ++ "<lambda>") := ⟨oc, vs, t, le2 _ _ put_same, hd, hv⟩
    exact ⟨_, _, _, B.1, h _ c' _ ctv _ _ put_same R' (.inr ⟨c', rfl, R'⟩) (le1.trans le2)⟩
  · refine kla_makeFunctionHit (mg := mg) hcl hge hgs hcode CH hP trivial (codeAmong_hit pos _) hB fun ctv h' tk hx hge' => ?_
    have C1 := C.keep hx tk
    have B := C1.pushW (kla_obj "<lambda>" (env.qual ++ "<lambda>") params body scope clos ((mg "__name__").getD .none) c₀ ctv)
    have le2 := put_le (o := kla_obj "<lambda>" (env.qual ++ "<lambda>") params body scope clos ((mg "__name__").getD .none) c₀ ctv) B.2
    exact ⟨_, _, _, B.1, h _ c₀ _ ctv _ _ put_same (hrec.up le2) (.inr ⟨c₀, rfl, hrec.up le2⟩) le2⟩

/-- the names of a line's function at its start -/
noncomputable def lamV (scope : Scope) (m : Vm) (x : Str) (v : Value) : Vm := upd (fun y => if (scope.names.lookup y == some .local) = true then none else m y) x v
theorem lam_get {scope : Scope} {m : Vm} {x y : Str} {v : Value} {u : Option Value} (hy : (y == x) = false) (hk : (scope.names.lookup y == some .local) = false) (e : m y = u) : lamV scope m x v y = u := by
  unfold lamV
  refine upd_ne (by simpa using hy) ?_
  show (if _ then _ else _) = _
  rw [hk, if_neg Bool.false_ne_true]; exact e
/-- a line's function, called where its cells are the frame's -/
theorem ca_lam {K : Frag} {q c' : Addr} {name qual : Str} {params : Arguments} {body : Expr} {scope : Scope} {cl : List (Str × Addr)} {pm ctv : Value} {x : Str} {v : Value} {n : Nat} {Q : Value → Wd → Led → Prop} (G : GW w K W) (hr : Room A (n + 1))
    (ho : W q = some (kla_obj name qual params body scope cl pm c' ctv)) (hcd : RecW W c' qual)
    (hbind : bindArgs (kla_fn name qual params body scope cl pm (.ref c') ctv) ⟨[v], []⟩ = pure [(x, v)]) (hx : scope.names.lookup x = some .local)
    (hcl : ∀ p ∈ cl, env.cells.lookup p.1 = some p.2) (hxs : ∀ p ∈ cl, (p.1 == x) = false ∧ (scope.names.lookup p.1 == some .local) = false)
    (hcell : ∀ y ∈ scope.names, y.2 ≠ .cell)
    (h : ∀ L g', Room (A.deeper (envX qual scope L q (.ref c') cl)) n → Tr prog w (A.deeper (envX qual scope L q (.ref c') cl)) (envX qual scope L q (.ref c') cl) g' (lamV scope m x v) W X (eval body (envX qual scope L q (.ref c') cl)) fun r m' W' X' => (∀ p ∈ cl, m' p.1 = m p.1) ∧ Q r W' X')
    (hco : scope.isCoroutine = false := by rfl) (hgen : scope.isGenerator = false := by rfl) (hk : scope.kind = .function := by rfl) :
    Tr prog w A env g m W X (call (.ref q) [v]) fun r m₂ W₂ X₂ => m₂ = m ∧ Le W W₂ ∧ Q r W₂ X₂ := .mk fun s C => by
  refine und fun Gq hGq => ?_
  obtain ⟨oc, vs, t, hc1, hc2, hc3⟩ := hcd
  refine hGq ?_
  clear hGq Gq
  refine wpAny_call (kla_callFunE hr.dep (C.adv.st.w _ _ ho) rfl hco hgen rfl ⟨c', oc, vs, t, rfl, C.adv.st.w _ _ hc1, hc2, hc3⟩ ?_)
  rw [hbind]
  refine wpAny_pure (wpAny_newFunctionEnv hcell (fun y hy => by rw [List.mem_singleton.mp hy]; exact hx) (fun h₁ hns hsb => ⟨(G.nolimit C.adv.st).fresh _ hsb, ?_⟩) hk)
  show codeAny _ _ (.expr body (envX qual scope s.heap.objs.size q (.ref c') cl)) _ _
  generalize hL : s.heap.objs.size = L at hns hsb ⊢
  have frL : s.heap.get? L = none := by rw [← hL]; exact fresh_size
  have up4 : ∀ b o, s.heap.get? b = some o → h₁.get? b = some o := fun b o e => hsb.extBut b o (by rw [← hL]; exact Nat.ne_of_lt (Heap.lt_size e)) (Heap.get?_push_of_some _ e)
  have fW : W L = none ∧ L ∉ adr X := by
    refine ⟨?_, fun hm => ?_⟩
    · cases q : W L with
      | none => rfl
      | some o => rw [C.adv.st.w L o q] at frL; cases frL
    · obtain ⟨o, hm⟩ := mem_adr.mp hm
      rw [C.adv.st.x L o hm] at frL; cases frL
  have lk : ∀ {x : Str} {a : Addr}, cl.lookup x = some a → env.cells.lookup x = some a := fun {x a} e => hcl (x, a) (mem_of_lookup e)
  let g₂ : Org := ⟨fun a => a ∈ adr X ∨ ∃ x, cl.lookup x = some a, W, s⟩
  have C4 : Cur (envX qual scope L q (.ref c') cl) (lamV scope m x v) g₂ W X { s with heap := h₁, toks := s.toks + 1 } := by
    refine ⟨⟨⟨h₁, _, rfl⟩, ⟨fun b o e => up4 b o (C.adv.st.w b o e), fun b o e => up4 b o (C.adv.st.x b o e), C.adv.st.xw, C.adv.st.nd⟩, Le.refl _, fun b o e _ => up4 b o e, fun b o e => .inl e, fun b hb => .inl (.inl hb)⟩,
      ⟨⟨_, hns, fun y hy => ?_⟩, fW.1, fW.2, fun y a hc => ?_, fun x y a hx hy => C.fm.inj x y a (lk hx) (lk hy)⟩, fun a ha => ?_⟩
    · show List.lookup y [(x, v)] = lamV scope m x v y
      have hy' : (scope.names.lookup y == some .local) = true := by
        have : scope.names.lookup y = some .local := hy
        rw [this]; rfl
      unfold lamV upd
      by_cases e : y = x
      · rw [if_pos e, e]; simp
      · rw [if_neg e]
        show List.lookup y [(x, v)] = if (scope.names.lookup y == some .local) = true then none else m y
        rw [if_pos hy']
        show (match y == x with | true => some v | false => none) = none
        rw [beq_eq_false_iff_ne.mpr e]
    · obtain ⟨⟨oc, hoc, hd⟩, c2, c3, c4⟩ := C.fm.cel y a (lk hc)
      obtain ⟨x1, x2⟩ := hxs (y, a) (mem_of_lookup hc)
      rw [lam_get x1 x2 rfl]
      exact ⟨⟨oc, up4 _ _ hoc, hd⟩, c2, c3, fun q => by
        have : a = L := q
        rw [this, frL] at hoc; cases hoc⟩
    · rcases ha with e | ⟨y, hy⟩
      · exact .inr (by have e' : a = L := e; rw [e']; exact frL)
      · exact .inl (.inr ⟨y, hy⟩)
  refine kla_codeExpr (wpAny_mono ((h L g₂ hr.deeper).run _ C4) (fun r s' ⟨m', W', X', C', hm, hQ⟩ => ?_) fun _ _ e => e.elim)
  refine ⟨m, W', X', ⟨C.adv.trans (g' := g₂) C'.adv fun a ha => ?_, ⟨?_, ?_, ?_, fun y a hc => ?_, C.fm.inj⟩, C.ok⟩, rfl, C'.adv.sub, hQ⟩
  · rcases ha with ha | ⟨y, hy⟩
    · exact C.adv.xfr a ha
    · exact C.ok a (.inr ⟨y, lk hy⟩)
  · obtain ⟨ml, ⟨o, es, ep, ho, r1, r2, r3⟩, hm⟩ := C.fm.loc
    refine ⟨ml, ⟨o, es, ep, (C'.adv.old (g := g₂) ho C.fm.lw fun q => ?_).1, r1, r2, r3⟩, hm⟩
    rcases q with q | ⟨y, q⟩
    · exact C.fm.lx q
    · exact (C.fm.cel y _ (lk q)).2.2.2 rfl
  · obtain ⟨ml, ⟨o, es, ep, ho, r1, r2, r3⟩, hm⟩ := C.fm.loc
    refine (C'.adv.old (g := g₂) ho C.fm.lw fun q => ?_).2.1
    rcases q with q | ⟨y, q⟩
    · exact C.fm.lx q
    · exact (C.fm.cel y _ (lk q)).2.2.2 rfl
  · obtain ⟨ml, ⟨o, es, ep, ho, r1, r2, r3⟩, hm⟩ := C.fm.loc
    refine (C'.adv.old (g := g₂) ho C.fm.lw fun q => ?_).2.2
    rcases q with q | ⟨y, q⟩
    · exact C.fm.lx q
    · exact (C.fm.cel y _ (lk q)).2.2.2 rfl
  · obtain ⟨⟨oc, hoc, hd⟩, c2, c3, c4⟩ := C.fm.cel y a hc
    by_cases q : ∃ z, cl.lookup z = some a
    · obtain ⟨z, hz⟩ := q
      obtain rfl : y = z := C.fm.inj y z a hc (lk hz)
      refine und fun Gq hGq => ?_
      obtain ⟨k1, k2, k3, _⟩ := C'.fm.cel y a hz
      refine hGq ?_
      clear hGq Gq
      rw [hm (y, a) (mem_of_lookup hz)] at k1
      exact ⟨k1, k2, k3, c4⟩
    · obtain ⟨k1, k2, k3⟩ := C'.adv.old (g := g₂) hoc c2 fun z => z.elim c3 q
      exact ⟨⟨oc, k1, hd⟩, k2, k3, c4⟩

/-! a call with keywords -/
noncomputable abbrev KCalk (prog : Program) (w : World) (A : Around) (env : Env) (g : Org) (pos : Pos) (args : List Expr) (kws : List Keyword) (Q : Value → Vm → Wd → Led → Prop) : Value → Vm → Wd → Led → Prop := fun v m W X => Tr prog w A env g m W X (callWith pos v [] (backTo pos (starEach args env)) (backToKw pos (keywordEach kws env))) Q
noncomputable abbrev KKw2 (prog : Program) (w : World) (A : Around) (env : Env) (g : Org) (f : Value) (name : Str) (vs : List Value) (Q : Value → Vm → Wd → Led → Prop) : Value → Vm → Wd → Led → Prop := fun k m W X => Tr prog w A env g m W X (call f vs [(name, k)]) Q
noncomputable abbrev KKw (prog : Program) (w : World) (A : Around) (env : Env) (g : Org) (f : Value) (name : Str) (value : Expr) (Q : Value → Vm → Wd → Led → Prop) : List Value → Vm → Wd → Led → Prop := fun vs m W X => Tr prog w A env g m W X (eval value env) (KKw2 prog w A env g f name vs Q)
theorem ev_callK {f : Expr} {args : List Expr} {kws : List Keyword} {pos : Pos} {Q : Value → Vm → Wd → Led → Prop} (hc : eval (.Call f args kws pos) env = (do let v ← eval f env; callWith pos v [] (backTo pos (starEach args env)) (backToKw pos (keywordEach kws env))))
    (h : Tr prog w A env g m W X (eval f env) (KCalk prog w A env g pos args kws Q)) : Tr prog w A env g m W X (eval (.Call f args kws pos) env) Q := .mk fun s C => by
  rw [hc]
  exact wpAny_bind (h.go C fun _ s₁ _ _ _ C₁ h₁ => h₁.run s₁ C₁)
theorem cw_kw1 {f : Value} {e value : Expr} {es : List Expr} {name : Str} {p pos : Pos} {Q : Value → Vm → Wd → Led → Prop} (hk : keeperOf f = pure .machine) (he : starEach (e :: es) env = (false, eval e env) :: starEach es env) (hp : ((backTo pos (starEach es env)).any fun x => x.1) = false)
    (h : Tr prog w A env g m W X (spliced (backTo pos (starEach (e :: es) env))) (KKw prog w A env g f name value Q)) :
    Tr prog w A env g m W X (callWith pos f [] (backTo pos (starEach (e :: es) env)) (backToKw pos (keywordEach [⟨some name, value, p⟩] env))) Q := .mk fun s C => by
  refine callWith_of (P := fun _ => True) (by rw [he]; show ((false || (backTo pos (starEach es env)).any (·.1)) || false) = false; rw [hp]; rfl) (fun _ _ => ⟨.machine, .inr (.inl rfl), Looks.of_pure hk⟩) (evalArgs_kw2 rfl ?_ he)
  refine h.go C fun vs s₁ m₁ W₁ X₁ C₁ h₁ => kwAll_cons (h₁.go C₁ fun k s₂ m₂ W₂ X₂ C₂ h₂ => kwAll_nil ⟨trivial, h₂.run s₂ C₂⟩)
end
end
section -- Lk
theorem slice_eq {vs : List Value} {lo hi : Option Int} (h0 : ∀ i, lo = some i → 0 ≤ i) (h1 : ∀ i, hi = some i → 0 ≤ i) : slicePick vs.toArray lo hi none = ((vs.take (hi.elim vs.length Int.toNat)).drop (lo.elim 0 Int.toNat)).toArray := by
  rw [slicePick_plain]
  have e1 : ∀ i : Int, 0 ≤ i → clipAt vs.length i = min i.toNat vs.length := fun i q => by
    have := clipAt_nat vs.length i.toNat
    rwa [Int.toNat_of_nonneg q] at this
  congr 1
  rw [List.drop_take]
  cases lo with
  | none =>
    cases hi with
    | none => simp
    | some j =>
      have := e1 j (h1 j rfl)
      simp only [Option.elim, List.size_toArray, this, Nat.sub_zero, List.drop_zero]
      by_cases q : j.toNat ≤ vs.length
      · rw [Nat.min_eq_left q]
      · rw [Nat.min_eq_right (Nat.le_of_not_le q), List.take_of_length_le (Nat.le_refl _), List.take_of_length_le (Nat.le_of_not_le q)]
  | some i =>
    have hi' := e1 i (h0 i rfl)
    by_cases q : i.toNat ≤ vs.length
    · cases hi with
      | none => simp only [Option.elim, List.size_toArray, hi', Nat.min_eq_left q]
      | some j =>
        have := e1 j (h1 j rfl)
        simp only [Option.elim, List.size_toArray, this, hi', Nat.min_eq_left q]
        by_cases q' : j.toNat ≤ vs.length
        · rw [Nat.min_eq_left q']
        · rw [Nat.min_eq_right (Nat.le_of_not_le q'), List.take_of_length_le (by rw [List.length_drop]; exact Nat.le_refl _), List.take_of_length_le (by rw [List.length_drop]; exact Nat.sub_le_sub_right (Nat.le_of_not_le q') _)]
    · have q' := Nat.le_of_not_le q
      have e2 : vs.drop i.toNat = [] := List.drop_eq_nil_of_le q'
      have e3 : vs.drop vs.length = [] := List.drop_eq_nil_of_le (Nat.le_refl _)
      simp only [Option.elim, List.size_toArray, hi', Nat.min_eq_right q', e2, e3, List.take_nil]



section
variable {prog : Program} {w : World} {A : Around} {env : Env} {g : Org} {m : Vm} {W : Wd} {X : Led} {Q : Value → Vm → Wd → Led → Prop}
/-- a slice that may turn -/
theorem su_slcX {value slice : Expr} {l sl : Addr} {vs : List Value} {a b : Value} {lo hi : Option Int} (hl : LstX W X l vs) (hs : SlcW W sl a b) (ha : IsPart a lo) (hb : IsPart b hi) (h0 : ∀ i, lo = some i → 0 ≤ i) (h1 : ∀ i, hi = some i → 0 ≤ i) (hz : vs.length ≤ sizeLine)
    {ops : List Value} (he : subscripted slice false (.ref l) (.ref sl) = operate ops (getItem (.ref l) (.ref sl)))
    (h : ∀ r, W r = none → r ∉ adr X → Q (.ref r) m W ((r, { cls := .type "list", data := .seq (((vs.take (hi.elim vs.length Int.toNat)).drop (lo.elim 0 Int.toNat))).toArray }) :: X)) : Tr prog w A env g m W X (subscriptTail value slice (.ref l) (.ref sl)) Q := .mk fun s C => by
  have hL := C.adv.st.lst hl
  refine tail_any hL.typeIs slot_list_getitem.lookup (wpAny_getItem_list_slice hL ⟨_, C.adv.st.w _ _ hs, rfl, rfl⟩ ha hb IsPart.none (by simp) ?_ (by rw [List.size_toArray]; exact hz)) he
  have B := C.push { cls := .type "list", data := .seq (slicePick vs.toArray lo hi none) }
  have nd := B.adv.st.nd
  rw [adr_cons] at nd
  refine ⟨_, _, _, B, ?_⟩
  have := h s.heap.objs.size (B.adv.st.xw _ _ List.mem_cons_self) (List.nodup_cons.mp nd).1
  rw [slice_eq h0 h1]
  exact this
end
end
section -- Pg
section
variable {prog : PySem.Program} {w : PySem.World} {A : PySem.Around} {env : PySem.Env} {g : Org} {m : Vm} {W : Wd} {X : Led}
theorem tn_ret {J : Vm → Wd → Led → Prop} {Q : PySem.Flow → Vm → Wd → Led → Prop} {v : PySem.Value} (h : Q (.ret v) m W X) : Turn J Q (.ret v) m W X := h
theorem tn_next {J : Vm → Wd → Led → Prop} {Q : PySem.Flow → Vm → Wd → Led → Prop} (h : J m W X) : Turn J Q .next m W X := h
theorem tn_cont {J : Vm → Wd → Led → Prop} {Q : PySem.Flow → Vm → Wd → Led → Prop} (h : J m W X) : Turn J Q .cont m W X := h
theorem cl1 {α : Type} {P : α → Prop} {a : α} (h : P a) : ∀ p ∈ [a], P p := fun p hp => by rw [List.mem_singleton.mp hp]; exact h
theorem cl0 {α : Type} {P : α → Prop} : ∀ p ∈ ([] : List α), P p := nofun
theorem cl2 {α : Type} {P : α → Prop} {a b : α} (h : P a) (h' : P b) : ∀ p ∈ [a, b], P p := fun p hp => by
  rcases List.mem_cons.mp hp with rfl | hp
  · exact h
  · rw [List.mem_singleton.mp hp]; exact h'
end
theorem ite_join {α : Type} {prog : PySem.Program} {w : PySem.World} {A : PySem.Around} {env : PySem.Env} {g : Org} {m : Vm} {W : Wd} {X : Led} {c : Bool} {t1 t2 : PySem.Sem α} {Q : α → Vm → Wd → Led → Prop} (P : α → Vm → Wd → Led → Prop)
    (h1 : c = true → Tr prog w A env g m W X t1 P) (h2 : c = false → Tr prog w A env g m W X t2 P) (k : ∀ v m' W' X', P v m' W' X' → ∀ Gq : α → Vm → Wd → Led → Prop, (∀ v m' W' X', Imp (Q v m' W' X') (Gq v m' W' X')) → Gq v m' W' X') : if c = true then Tr prog w A env g m W X t1 Q else Tr prog w A env g m W X t2 Q := by
  have k := fun v m' W' X' p => k v m' W' X' p Q fun _ _ _ _ h => h
  cases c with
  | true => rw [if_pos rfl]; exact (h1 rfl).mono k
  | false => rw [if_neg Bool.false_ne_true]; exact (h2 rfl).mono k
end
-- the walk's own lines
local macro_rules | `(tactic| wtm_at "zvr") => `(tactic| first | assumption | exact upd_same | (refine upd_ne (by decide) ?_; wtm_at "zvr") | exact rfl)
local macro_rules | `(tactic| wtm_at "zle") => `(tactic| first | exact Le.refl _ | assumption | (refine Le.trans ?_ (by assumption); wtm_at "zle"))
local macro_rules | `(tactic| wtm_at "zgw") => `(tactic| first | assumption | exact GW.up (by assumption) (by wtm_at "zle"))
local macro_rules | `(tactic| wtm_at "zmem") => `(tactic| first | exact List.Mem.head _ | assumption | (refine List.Mem.tail _ ?_; wtm_at "zmem"))
local macro_rules | `(tactic| wtm_at "zlx") => `(tactic| first | assumption | exact LstW.x (by assumption) | exact LstW.x (LstW.up (by assumption) (by wtm_at "zle")) | exact ⟨_, .inr (by wtm_at "zmem"), by first | assumption | exact lstO _⟩)
local macro_rules | `(tactic| wtm_at "ztx") => `(tactic| first | assumption | exact TupW.x (by assumption) | exact TupW.x (TupW.up (by assumption) (by wtm_at "zle")) | exact ⟨_, .inr (by wtm_at "zmem"), by first | assumption | exact tupO _⟩)
local macro_rules | `(tactic| wtm_at "zev") => `(tactic| first
  | ((with_reducible refine' ev_loc ?a ?b ?d ?v ?_); (case a | b => exact rfl); (case d => decide); (case v => wtm_at "zvr"))
  | ((with_reducible refine' ev_cel ?a ?b ?c ?d ?v ?_); (case a | b | c => exact rfl); (case d => decide); (case v => wtm_at "zvr"))
  | ((with_reducible refine' ev_fre ?a ?b ?c ?d ?e ?v ?_); (case a | b | c => exact rfl); (case d | e => decide); (case v => wtm_at "zvr"))
  | ((with_reducible refine' ev_glb ?G ?a ?b ?c ?d ?v ?_); (case G => wtm_at "zgw"); (case a | b | c => exact rfl); (case d => decide); (case v => k_is))
  | ((with_reducible refine' ev_bui ?G ?a ?b ?c ?d ?e ?v ?u ?f ?_); (case G => wtm_at "zgw"); (case a | b | c | d => exact rfl); (case e | f => decide); (case v => k_is); (case u => boot_fast))
  | ((with_reducible first | refine ev_int ?_ | refine ev_str ?_); intro _)
  | with_reducible first | refine ev_bool ?_ | refine ev_none ?_ | refine ev_bin ?_ | refine ev_una ?_ | refine ev_ife ?_ | refine ev_sub ?_ | refine ev_tup ?_ | refine ev_slc ?_ | refine ep_none ?_ | refine ep_some ?_ | refine ev_and ?_ | refine ev_lst ?_ | refine sp_nil ?_
  | ((with_reducible first | refine' ev_cmp ?a ?_ | refine' ev_att ?a ?_ | refine' ev_ch2 ?a ?_ | refine' ev_meth _ ?a ?_ | refine' ev_call ?a ?_); (case a => with_unfolding_all rfl))
  | ((with_reducible first | refine' sp_cons ?a ?_ | refine' cw_0' ?a ?_ | refine' cw_0s ?a ?_); (case a => exact rfl))
  | ((with_reducible first | refine' cw_1' ?a ?b ?c ?_ | refine' cw_1s ?a ?b ?c ?_); (case a | b | c => exact rfl))
  | ((with_reducible first | refine' cw_K0' ?a ?G ?_ | refine' cw_K0s ?a ?G ?_); (case G => wtm_at "zgw"); (case a => k_is))
  | ((with_reducible first | refine' cw_K' ?a ?b ?c ?G ?_ | refine' cw_Ks ?a ?b ?c ?G ?_); (case G => wtm_at "zgw"); (case a => k_is); (case b | c => exact rfl))
  | ((with_reducible show GW _ _ _ ∧ _); refine ⟨by wtm_at "zgw", ?_⟩))
local macro_rules | `(tactic| wtm_at "zit") => `(tactic| first
  | with_reducible first | refine it_not ?_ | refine it_bo ?_ | refine at_nil ?_ | refine ot_nil ?_ | refine at_cons ?_ | refine ot_cons ?_ | refine tr_bool ?_
  | ((with_reducible first | refine' it_cmp ?a ?_ | refine' it_ch2 ?a ?_ | refine' it_val ?a ?_); (case a => with_unfolding_all rfl)))
local macro_rules | `(tactic| wtm_at "zex") => `(tactic| first
  | with_reducible first | refine ex_nil ?_ | refine ex_cons ?_ | refine hid_use (by assumption) ?_ | refine hid_use3 (by assumption) ?_ | refine hid_use4 (by assumption) ?_ | refine th_next ?_ | refine th_ret ?_ | refine th_cont ?_ | refine tn_ret ?_ | refine tn_next ?_ | refine tn_cont ?_ | refine ex_if ?_ | refine ex_ret ?_ | refine ex_ret0 ?_ | refine ex_cont ?_ | refine as_name ?_
  | ((with_reducible first | refine' ex_asg ?a ?_ | refine' ex_asgA ?a ?_ | refine' ex_asgS ?a ?_); (case a => with_unfolding_all rfl))
  | ((with_reducible first | refine' ex_expr ?a ?b ?_ | refine' ex_asgT ?a ?b ?_); (case a | b => with_unfolding_all rfl))
  | ((with_reducible refine' so_loc ?a ?b ?c ?_); (case a | b | c => exact rfl))
  | ((with_reducible refine' so_cel ?a ?b ?c ?_); (case a | b | c => exact rfl)))
local macro_rules | `(tactic| wtm_at "zop") => `(tactic| first
  | ((with_reducible first | refine bo_add ?_ | refine bo_sub ?_ | refine uo_neg ?_); intro _)
  | with_reducible first | refine co_eq ?_ | refine co_ne ?_ | refine co_lt ?_ | refine co_le ?_ | refine co_gt ?_ | refine co_ge ?_ | refine co_is ?_)
local macro_rules | `(tactic| wtm_at "zsu") => `(tactic| first
  | ((with_reducible refine' su_lst ?l (by decide) (by decide) ?x ?s ?_); (case l => wtm_at "zlx"); (case x => exact rfl); (case s => with_unfolding_all rfl))
  | ((with_reducible refine' su_lst1 ?l ?s ?_); (case l => wtm_at "zlx"); (case s => with_unfolding_all rfl))
  | ((with_reducible refine' su_tup ?l (by decide) (by decide) ?j ?x ?s ?_); (case l => wtm_at "ztx"); (case j | x => exact rfl); (case s => with_unfolding_all rfl)))
local macro_rules | `(tactic| wtm_at "zite") => `(tactic| with_reducible refine ite_dec (fun _ => ?_) (fun _ => ?_))
local macro_rules | `(tactic| wtm_at "zif") => `(tactic| first
  | ((with_reducible show ite (true = true) _ _); with_reducible refine ite_t rfl ?_)
  | ((with_reducible show ite (false = true) _ _); with_reducible refine ite_f rfl ?_)
  | ((with_reducible show ite ((!true) = true) _ _); refine ite_f rfl ?_)
  | ((with_reducible show ite ((!false) = true) _ _); refine ite_t rfl ?_)
  | ((with_reducible show ite ((_ == Value.none) = true) _ _); first | refine ite_f rfl ?_ | refine ite_t rfl ?_)
  | with_reducible refine ite_f (by assumption) ?_
  | with_reducible refine ite_t (by assumption) ?_)
local macro_rules | `(tactic| wtm_at "zhs") => `(tactic| first | exact .inl (by assumption) | exact .inr (by wtm_at "zmem"))
local macro_rules | `(tactic| wtm_at "zdx") => `(tactic| first | assumption | exact DctW.x (by assumption) | exact ⟨by assumption, _, .inr (by wtm_at "zmem"), by assumption⟩ | exact DctW.x (DctW.up (by assumption) (by wtm_at "zle")))
local macro_rules | `(tactic| wtm_at "zat") => `(tactic| first
  | ((with_reducible refine' at_get ?G ?x ?d ?a ?g ?h ?f ?n ?v ?i ?_); (case G => wtm_at "zgw"); (case x | d => wtm_at "zhs"); (case a => assumption); (case g | h | f | n => k_is); (case v => wtm_at "zvr"); (case i => exact rfl))
  | ((with_reducible refine' at_meth ?G ?x ?d ?a ?g ?f ?t ?v ?_); (case G => wtm_at "zgw"); (case x | d => wtm_at "zhs"); (case a => assumption); (case g | f | t => k_is); (case v => wtm_at "zvr"))
  | ((with_reducible first | refine' gm_dget ?d ?_ | refine' ca_dget ?d ?_ | refine' co_ind ?d ?_ | refine' co_nind ?d ?_); (case d => wtm_at "zdx"))
  | ((with_reducible refine' su_dct ?d ?v ?s ?_); (case d => wtm_at "zdx"); (case v => assumption); (case s => with_unfolding_all rfl)))
local macro_rules | `(tactic| wtm_at "zhh") => `(tactic| exact Room.hd (by assumption))
local macro_rules | `(tactic| wtm_at "zun") => `(tactic| first
  | ((with_reducible first | refine' as_tup2 ?h ?t ?_ | refine' as_tup4 ?h ?t ?_); (case h => wtm_at "zhh"); (case t => wtm_at "ztx"))
  | ((with_reducible first | refine' ex_sw2 ?h ?s ?w ?_ | refine' ex_sw3 ?h ?s ?w ?_); (case h => wtm_at "zhh"); (case s | w => with_unfolding_all rfl)))
local macro_rules | `(tactic| wtm_at "zas") => `(tactic|
  ((with_reducible refine' at_set ?G ?x ?a ?s ?p ?t ?h ?k ?j ?_); (case G => wtm_at "zgw"); (case x => wtm_at "zhs"); (case a => assumption); (case s | p | t | h => k_is); (case j => first | exact .inl ⟨isSome_of (by wtm_at "zvr"), rfl⟩ | exact .inr rfl); (case k => decide); intro _ _))
local macro_rules | `(tactic| wtm_at "zst") => `(tactic| first | wtm_at "zev" | wtm_at "zit" | wtm_at "zex" | wtm_at "zop" | wtm_at "zsu" | wtm_at "zun" | wtm_at "zif" | wtm_at "zat" | wtm_at "zas" | fail "no step")
local macro_rules | `(tactic| wtm_at "zgo") => `(tactic| repeat' (wtm_at "zst"))
local macro_rules | `(tactic| wtm_at "znx") => `(tactic| first
  | with_reducible first | refine ex_cons ?_ | refine th_next ?_ | refine as_name ?_
  | ((with_reducible refine' ex_asg ?a ?_); (case a => with_unfolding_all rfl))
  | ((with_reducible refine' so_loc ?a ?b ?c ?_); (case a | b | c => exact rfl)))
section -- F1
noncomputable def drawN (ns : List Int) (sd : Int) (k : Nat) (many : Int) : Int :=
  if k < ns.length then Int.fmod (ns.getD k 0) many else Int.fmod (sd + 7 * k + Int.fdiv ((k : Int) * k) 3) many

theorem draw_spec {w : World} {A : Around} {W : Wd} {p c : Addr} {op : Obj} {vc : List Value} {ns : List Int} {sd : Int} {k : Nat} {t1 t2 tm : Tok} {many : Int}
    (G : GW w (Mine.hd.heap_1 w.params) W) (hr : Room A 1)
    (ho : LstO op [.ref c, .int k t1, .int sd t2]) (hc : LstW W c vc) (hi : IntsAre vc ns) (hn : ns.length ≤ 1000) (hk : k ≤ 1000) (hm : 0 < many) :
    Cl PG w A W [(p, op)] (.ref 310) [.ref p, .int many tm] fun v W' X' => Ex3 fun t u o' => And3 (v = .int (drawN ns sd k many) t) (LstO o' [.ref c, .int ((k + 1 : Nat) : Int) u, .int sd t2]) (X' = [(p, o')]) := by
  refine Cl.enter [("pen", .ref p), ("many", .int many tm)] G hr (by k_is) (by k_is) (fun s X S => by exact BindsTo.of_eq rfl) (by exact rfl) (by exact rfl) (by exact rfl) (by exact rfl) (by exact rfl) fun A' L g Q0 hr' hQ0 => ?_
  dsimp only [mB, List.foldl]
  wtm_at "zgo"
  refine si_lst ho (by decide) (by decide) (show (1 : Int) < 3 by decide) fun o' ho' => ?_
  wtm_at "zgo"
  have hlen : vc.length = ns.length := hi.length
  refine ca_len (by wtm_at "zlx") (by rw [sizeLine_eq]; omega) fun _ => ?_
  wtm_at "zgo"
  wtm_at "zite"
  · rename_i hlt
    have hlt' : k < ns.length := by omega
    wtm_at "zgo"
    obtain ⟨tx, hx⟩ := hi.get k (ns.getD k 0) (by rw [List.getD_eq_getElem?_getD]; rw [List.getElem?_eq_getElem (by omega)]; rfl)
    refine su_lst (by wtm_at "zlx") (by omega) (by omega +splitDisjunctions) (by simpa using hx) (by with_unfolding_all rfl) ?_
    wtm_at "zgo"
    refine bo_mod (by omega) fun _ => ?_
    wtm_at "zgo"
    exact ⟨_, _, _, by rw [drawN, if_pos hlt']; rfl, ho', rfl⟩
  · rename_i hlt
    have hlt' : ¬ k < ns.length := by omega
    wtm_at "zgo"
    refine bo_mul (IntMulOk.of_left (PySem.intBits_le_64 (by omega) (by omega))) fun _ => ?_
    wtm_at "zgo"
    refine bo_mul (IntMulOk.of_left (PySem.intBits_le_64 (by omega) (by omega +splitDisjunctions))) fun _ => ?_
    wtm_at "zgo"
    refine bo_div (by decide) (PyProof.noPylong_small (by decide)) fun _ => ?_
    wtm_at "zgo"
    refine bo_mod (by omega) fun _ => ?_
    wtm_at "zgo"
    exact ⟨_, _, _, by rw [drawN, if_neg hlt']; rfl, ho', rfl⟩
end
section -- F2
theorem blocked_spec {w : World} {A : Around} {W : Wd} {X : Led} {a b : Int} {t u : Tok} (G : GW w (Mine.hd.heap_1 w.params) W) (hr : Room A 1) :
    Cl PG w A W X (.ref 222) [.int a t, .int b u] fun v W' X' => v = .bool (decide (a ≠ 0 ∧ b ≤ a)) ∧ X' = X := by
  refine Cl.enter [("last", .int a t), ("here", .int b u)] G hr (by k_is) (by k_is) (fun s X S => by exact BindsTo.of_eq rfl) (by exact rfl) (by exact rfl) (by exact rfl) (by exact rfl) (by exact rfl) fun A' L g Q0 hr' hQ0 => ?_
  dsimp only [mB, List.foldl]
  wtm_at "zgo"
  by_cases h : a = 0
  · subst h
    wtm_at "zgo"
    refine ite_f rfl ?_
    wtm_at "zgo"
    exact ⟨by simp [rv], rfl⟩
  · refine ite_t (by simpa using h) ?_
    wtm_at "zgo"
    exact ⟨by simp [rv, h], rfl⟩
theorem hparts_spec {w : World} {A : Around} {W : Wd} {X : Led} {a : Int} {t : Tok} (G : GW w (Mine.hd.heap_1 w.params) W) (hr : Room A 1) (ha : a < 1000) :
    Cl PG w A W X (.ref 163) [.int a t] fun v W' X' => v = .none ∧ X' = X := by
  refine Cl.enter [("code", .int a t)] G hr (by k_is) (by k_is) (fun s X S => by exact BindsTo.of_eq rfl) (by exact rfl) (by exact rfl) (by exact rfl) (by exact rfl) (by exact rfl) fun A' L g Q0 hr' hQ0 => ?_
  dsimp only [mB, List.foldl]
  have h1 : decide (0 ≤ a - 44032) = false := decide_eq_false (by omega)
  wtm_at "zgo"
  exact ⟨rfl, rfl⟩
theorem hwhole_spec {w : World} {A : Around} {W : Wd} {X : Led} {a b : Int} {t u : Tok} (G : GW w (Mine.hd.heap_1 w.params) W) (hr : Room A 1) (ha : a < 1000) :
    Cl PG w A W X (.ref 170) [.int a t, .int b u] fun v W' X' => (∃ t, v = .int 0 t) ∧ X' = X := by
  refine Cl.enter [("first", .int a t), ("second", .int b u)] G hr (by k_is) (by k_is) (fun s X S => by exact BindsTo.of_eq rfl) (by exact rfl) (by exact rfl) (by exact rfl) (by exact rfl) (by exact rfl) fun A' L g Q0 hr' hQ0 => ?_
  dsimp only [mB, List.foldl]
  have h1 : decide (0 ≤ a - 44032) = false := decide_eq_false (by omega)
  have h2 : decide (0 ≤ a - 4352) = false := decide_eq_false (by omega)
  wtm_at "zgo"
  exact ⟨⟨_, rfl⟩, rfl⟩
end
section -- F3
theorem glyph_spec {w : World} {A : Around} {W : Wd} {X : Led} {x : Addr} {kn : List Int} {c : Int} {t : Tok} (G : GW w (Mine.hd.heap_1 w.params) W) (hr : Room A 1) (hc : CharW PG w W x kn) :
    Cl PG w A W X (.ref 282) [.ref x, .int c t] fun v W' X' => (∃ t, v = .int (if c ∈ kn then c else 0) t) ∧ X' = X := by
  refine und fun Gq hGq => ?_
  obtain ⟨dx, od, f, d, kvs, h1, h2, h3, h4, h5, h6, h7⟩ := hc
  refine hGq ?_
  clear hGq Gq
  refine Cl.enter [("self", .ref x), ("code", .int c t)] G hr (by k_is) (by k_is) (fun s X S => by exact BindsTo.of_eq rfl) (by exact rfl) (by exact rfl) (by exact rfl) (by exact rfl) (by exact rfl) fun A' L g Q0 hr' hQ0 => ?_
  dsimp only [mB, List.foldl]
  wtm_at "zgo"
  by_cases hk : c ∈ kn
  · obtain ⟨t, e⟩ := (h7 c).1 hk
    exact ⟨⟨t, by rw [if_pos hk]; simp [rv, e]⟩, rfl⟩
  · exact ⟨⟨_, by rw [if_neg hk]; simp only [rv, (h7 c).2 hk]; rfl⟩, rfl⟩
theorem classof_spec {w : World} {A : Around} {W : Wd} {X : Led} {x : Addr} {N : Nm} {c : Int} {t : Tok} (G : GW w (Mine.hd.heap_1 w.params) W) (hr : Room A 1) (hc : NormW PG w W x N) :
    Cl PG w A W X (.ref 142) [.ref x, .int c t] fun v W' X' => (∃ t, v = .int (N.classOf c) t) ∧ X' = X := by
  refine und fun Gq hGq => ?_
  obtain ⟨dx, od, f, p, cc, pk, ck, h1, h2, h3, h4, h5, h6, h7, h8, h9, h10, h11⟩ := hc
  refine hGq ?_
  clear hGq Gq
  refine Cl.enter [("self", .ref x), ("code", .int c t)] G hr (by k_is) (by k_is) (fun s X S => by exact BindsTo.of_eq rfl) (by exact rfl) (by exact rfl) (by exact rfl) (by exact rfl) (by exact rfl) fun A' L g Q0 hr' hQ0 => ?_
  dsimp only [mB, List.foldl]
  wtm_at "zgo"
  exact ⟨look_int h11 c _, rfl⟩
theorem classhere_spec {w : World} {A : Around} {W : Wd} {X : Led} {x : Addr} {N : Nm} {i : Inf} {r : Rw} (G : GW w (Mine.hd.heap_1 w.params) W) (hr : Room A 2) (hc : NormW PG w W x N) (hi : InfW W i r) (hx : (i.d, i.o) ∈ X) :
    Cl PG w A W X (.ref 229) [.ref x, .ref i.x] fun v W' X' => (∃ t, v = .int (N.cl r) t) ∧ X' = X := by
  refine und fun Gq hGq => ?_
  obtain ⟨hi1, f, ha, hf⟩ := hi
  obtain ⟨t1, e1⟩ := hf.glyph
  obtain ⟨t2, e2⟩ := hf.code
  have hc' := hc
  obtain ⟨dx, od, f', p, cc, pk, ck, h1, h2, h3, h4, h5, h6, h7, h8, h9, h10, h11⟩ := hc'
  refine hGq ?_
  clear hGq Gq
  refine Cl.enter [("normal", .ref x), ("info", .ref i.x)] G hr (by k_is) (by k_is) (fun s X S => by exact BindsTo.of_eq rfl) (by exact rfl) (by exact rfl) (by exact rfl) (by exact rfl) (by exact rfl) fun A' L g Q0 hr' hQ0 => ?_
  dsimp only [mB, List.foldl]
  wtm_at "zgo"
  wtm_at "zite"
  · rename_i h
    wtm_at "zgo"
    exact ⟨⟨_, by rw [Nm.cl, if_pos h]; rfl⟩, rfl⟩
  · rename_i h
    wtm_at "zgo"
    refine Tr.call0G (classof_spec G hr' hc) fun Gq W' v le hGq hK1 => ?_
    obtain ⟨t, e⟩ := hK1
    subst e
    refine hGq _ ?_
    clear hGq Gq
    wtm_at "zgo"
    exact ⟨⟨t, by rw [Nm.cl, if_neg h]; rfl⟩, rfl⟩
theorem lawclass_spec {w : World} {A : Around} {W : Wd} {X : Led} {x : Addr} {N : Nm} {v : Value} {r : Rw} (G : GW w (Mine.hd.heap_1 w.params) W) (hr : Room A 1) (hc : NormW PG w W x N) (hv : Tup4 W v r) :
    Cl PG w A W X (.ref 332) [.ref x, v] fun v W' X' => (∃ t, v = .int (N.cl r) t) ∧ X' = X := by
  refine und fun Gq hGq => ?_
  obtain ⟨a, t1, t2, t3, t4, rfl, hv⟩ := hv
  have hv := tupW_new hv
  obtain ⟨dx, od, f', p, cc, pk, ck, h1, h2, h3, h4, h5, h6, h7, h8, h9, h10, h11⟩ := hc
  refine hGq ?_
  clear hGq Gq
  refine Cl.enter [("normal", .ref x), ("row", .ref a)] G hr (by k_is) (by k_is) (fun s X S => by exact BindsTo.of_eq rfl) (by exact rfl) (by exact rfl) (by exact rfl) (by exact rfl) (by exact rfl) fun A' L g Q0 hr' hQ0 => ?_
  dsimp only [mB, List.foldl]
  wtm_at "zgo"
  wtm_at "zite"
  · rename_i h
    wtm_at "zgo"
    exact ⟨⟨_, by rw [Nm.cl, if_pos h]; rfl⟩, rfl⟩
  · rename_i h
    wtm_at "zgo"
    obtain ⟨t, e⟩ := look_int h11 r.1 (by assumption)
    exact ⟨⟨t, by rw [Nm.cl, if_neg h]; exact e⟩, rfl⟩
end
section -- F4
theorem setcluster_spec {w : World} {A : Around} {W : Wd} {i : Inf} {r : Rw} {c : Int} {t : Tok} (G : GW w (Mine.hd.heap_1 w.params) W) (hr : Room A 1) (hi : InfW W i r) :
    Cl PG w A W [(i.d, i.o)] (.ref 109) [.ref i.x, .int c t] fun v W' X' => v = .none ∧ ∃ o, X' = [(i.d, o)] ∧ InfO o (r.1, c, r.2.2) := by
  refine und fun Gq hGq => ?_
  obtain ⟨hi1, f, ha, hf⟩ := hi
  obtain ⟨t1, e1⟩ := hf.clus
  obtain ⟨b, e2⟩ := hf.uns
  refine hGq ?_
  clear hGq Gq
  refine Cl.enter [("info", .ref i.x), ("cluster", .int c t)] G hr (by k_is) (by k_is) (fun s X S => by exact BindsTo.of_eq rfl) (by exact rfl) (by exact rfl) (by exact rfl) (by exact rfl) (by exact rfl) fun A' L g Q0 hr' hQ0 => ?_
  dsimp only [mB, List.foldl]
  wtm_at "zgo"
  by_cases h : r.2.1 = c
  · have h' : (r.2.1 != c) = false := by simp [h]
    wtm_at "zgo"
    subst h
    exact ⟨rfl, _, rfl, f, ha, hf⟩
  · have h' : (r.2.1 != c) = true := by simp [h]
    wtm_at "zgo"
    refine ⟨rfl, _, rfl, _, (by assumption), ?_⟩
    refine und fun Gq hGq => ?_
    obtain ⟨a1, a2, a3, a4, a5, a6, a7, a8, a9, a10, a11, a12, a13, a14, a15, a16⟩ := hf
    refine hGq ?_
    clear hGq Gq
    constructor
    all_goals first
      | exact ⟨_, by wtm_at "zvr"⟩
      | (obtain ⟨t, e⟩ := a1; exact ⟨t, by wtm_at "zvr"⟩)
      | (obtain ⟨t, e⟩ := a3; exact ⟨t, by wtm_at "zvr"⟩)
      | (obtain ⟨t, e⟩ := a4; exact ⟨t, by wtm_at "zvr"⟩)
      | (obtain ⟨t, u, e⟩ := a6; exact ⟨t, u, by wtm_at "zvr"⟩)
      | (obtain ⟨t, u, e⟩ := a7; exact ⟨t, u, by wtm_at "zvr"⟩)
      | (obtain ⟨t, u, e⟩ := a8; exact ⟨t, u, by wtm_at "zvr"⟩)
      | (obtain ⟨t, u, e⟩ := a9; exact ⟨t, u, by wtm_at "zvr"⟩)
      | (obtain ⟨t, u, e⟩ := a10; exact ⟨t, u, by wtm_at "zvr"⟩)
      | (obtain ⟨t, u, e⟩ := a11; exact ⟨t, u, by wtm_at "zvr"⟩)
      | (obtain ⟨t, u, e⟩ := a12; exact ⟨t, u, by wtm_at "zvr"⟩)
      | (obtain ⟨t, u, e⟩ := a13; exact ⟨t, u, by wtm_at "zvr"⟩)
      | (obtain ⟨t, u, e⟩ := a14; exact ⟨t, u, by wtm_at "zvr"⟩)
      | (obtain ⟨t, u, e⟩ := a15; exact ⟨t, u, by wtm_at "zvr"⟩)
      | wtm_at "zvr"
theorem infoinit_spec {w : World} {A : Around} {W : Wd} {x dx : Addr} {c gl k : Int} {t1 t2 t3 : Tok} (G : GW w (Mine.hd.heap_1 w.params) W) (hr : Room A 1) :
    Cl PG w A W [(x, instObj 52 dx), (dx, emptyDict)] (.ref 35) [.ref x, .int c t1, .int gl t2, .int k t3] fun v W' X' => v = .none ∧ ∃ o, W' x = some (instObj 52 dx) ∧ X' = [(dx, o)] ∧ InfO o (c, k, gl, 0) := by
  refine Cl.enter [("self", .ref x), ("code", .int c t1), ("glyph", .int gl t2), ("cluster", .int k t3)] G hr (by k_is) (by k_is) (fun s X S => by exact BindsTo.of_eq rfl) (by exact rfl) (by exact rfl) (by exact rfl) (by exact rfl) (by exact rfl) fun A' L g Q0 hr' hQ0 => ?_
  dsimp only [mB, List.foldl]
  refine Tr.freeze fun W₁ hx le => ?_
  have ha0 := atO_nil
  wtm_at "zgo"
  refine ⟨rfl, _, hx, rfl, _, (by assumption), ?_⟩
  constructor
  all_goals first
    | exact ⟨_, by wtm_at "zvr"⟩
    | exact ⟨_, _, by wtm_at "zvr"⟩
    | wtm_at "zvr"
end
section -- F5
theorem infomake_spec {w : World} {A : Around} {W : Wd} {c gl k : Int} {t1 t2 t3 : Tok} (G : GW w (Mine.hd.heap_1 w.params) W) (hr : Room A 2) :
    Cl PG w A W [] (.ref 52) [.int c t1, .int gl t2, .int k t3] fun v W' X' => Ex3 fun x d o => And3 (v = .ref x) (X' = [(d, o)]) (InfW W' ⟨x, d, o⟩ (c, k, gl, 0)) := by
  refine at_make G (by k_is) (by k_is) (by k_is) fun x dx h1 h2 h3 h4 h5 => ?_
  refine Cl.mono (infoinit_spec G hr.make) fun v W' X' ⟨e, o, hx, hX, hO⟩ => ⟨e, x, dx, o, rfl, hX, hx, hO⟩
theorem copied_spec {w : World} {A : Around} {W : Wd} {X : Led} {i : Inf} {r : Rw} (G : GW w (Mine.hd.heap_1 w.params) W) (hr : Room A 3) (hi : InfW W i r) (hX : (i.d, i.o) ∈ X) :
    Cl PG w A W X (.ref 42) [.ref i.x] fun v W' X' => Ex3 fun x d o => And3 (v = .ref x) (X' = (d, o) :: X) (InfW W' ⟨x, d, o⟩ r) := by
  refine und fun Gq hGq => ?_
  obtain ⟨hi1, f, ha, hf⟩ := hi
  obtain ⟨⟨t1, a1⟩, ⟨t2, a2⟩, ⟨t3, a3⟩, ⟨t4, a4⟩, ⟨b5, a5⟩, ⟨u6, t6, a6⟩, ⟨u7, t7, a7⟩, ⟨u8, t8, a8⟩, ⟨u9, t9, a9⟩, ⟨u10, t10, a10⟩, ⟨u11, t11, a11⟩, ⟨u12, t12, a12⟩, ⟨u13, t13, a13⟩, ⟨u14, t14, a14⟩, ⟨u15, t15, a15⟩, a16⟩ := hf
  refine hGq ?_
  clear hGq Gq
  refine Cl.enter [("self", .ref i.x)] G hr (by k_is) (by k_is) (fun s X S => by exact BindsTo.of_eq rfl) (by exact rfl) (by exact rfl) (by exact rfl) (by exact rfl) (by exact rfl) fun A' L g Q0 hr' hQ0 => ?_
  dsimp only [mB, List.foldl]
  wtm_at "zgo"
  refine Tr.callG (Xp := []) (Xr := X) (infomake_spec G hr') fun Gq W₁ v X' le hGq hK1 => ?_
  obtain ⟨x, d, o, e, hX', hI⟩ := hK1
  subst e; subst hX'
  refine hGq _ _ ?_
  clear hGq Gq
  show Tr _ _ _ _ _ _ _ ((d, o) :: X) _ _
  refine und fun Gq hGq => ?_
  obtain ⟨hx, f', ha', hf'⟩ := hI
  obtain ⟨⟨t1', a1'⟩, ⟨t2', a2'⟩, ⟨t3', a3'⟩, ⟨t4', a4'⟩, ⟨b5', a5'⟩, ⟨u6', t6', a6'⟩, ⟨u7', t7', a7'⟩, ⟨u8', t8', a8'⟩, ⟨u9', t9', a9'⟩, ⟨u10', t10', a10'⟩, ⟨u11', t11', a11'⟩, ⟨u12', t12', a12'⟩, ⟨u13', t13', a13'⟩, ⟨u14', t14', a14'⟩, ⟨u15', t15', a15'⟩, a16'⟩ := hf'
  refine hGq ?_
  clear hGq Gq
  have hi2 := le _ _ hi1
  wtm_at "zgo"
  refine ⟨_, _, _, rfl, rfl, hx, _, (by assumption), ?_⟩
  constructor
  all_goals first
    | exact ⟨_, by wtm_at "zvr"⟩
    | exact ⟨_, _, by wtm_at "zvr"⟩
    | wtm_at "zvr"
end
section -- F6
theorem led_append (a b : List Inf) : led (a ++ b) = led a ++ led b := List.map_append
theorem refs_append (a b : List Inf) : refs (a ++ b) = refs a ++ refs b := List.map_append
theorem mem_led {i : Inf} {is : List Inf} (h : i ∈ is) : (i.d, i.o) ∈ led is := List.mem_map.mpr ⟨i, h, rfl⟩
theorem refs_get {is : List Inf} {i : Nat} {v : Value} (h : (refs is)[i]? = some v) : ∃ j, is[i]? = some j ∧ v = .ref j.x := by
  unfold refs at h
  rw [List.getElem?_map] at h
  cases q : is[i]? with
  | none => rw [q] at h; cases h
  | some j => rw [q] at h; cases h; exact ⟨j, rfl, rfl⟩
inductive BufO (o : Obj) (row : Value) : Prop
  | mk (f) (h1 : AtO o f 3) (h2 : f "row" = some row) : BufO o row
theorem bufinit_spec {w : World} {A : Around} {W : Wd} {x dx l : Addr} (G : GW w (Mine.hd.heap_1 w.params) W) (hr : Room A 1) :
    Cl PG w A W [(x, instObj 98 dx), (dx, emptyDict)] (.ref 71) [.ref x, .ref l] fun v W' X' => v = .none ∧ ∃ o, W' x = some (instObj 98 dx) ∧ X' = [(dx, o)] ∧ BufO o (.ref l) := by
  refine Cl.enter [("self", .ref x), ("infos", .ref l), ("is_backward", .bool false)] G hr (by k_is) (by k_is) (fun s X S => by exact BindsTo.of_defaults rfl (S.w _ _ (G.at (show _ = some _ by rfl))) rfl rfl rfl) (by exact rfl) (by exact rfl) (by exact rfl) (by exact rfl) (by exact rfl) fun A' L g Q0 hr' hQ0 => ?_
  dsimp only [mB, List.foldl]
  refine Tr.freeze fun W₁ hx le => ?_
  have ha0 := atO_nil
  wtm_at "zgo"
  exact ⟨rfl, _, hx, rfl, _, (by assumption), by wtm_at "zvr"⟩
theorem bufmake_spec {w : World} {A : Around} {W : Wd} {l : Addr} (G : GW w (Mine.hd.heap_1 w.params) W) (hr : Room A 2) :
    Cl PG w A W [] (.ref 98) [.ref l] fun v W' X' => Ex3 fun x d o => And4 (v = .ref x) (X' = [(d, o)]) (W' x = some (instObj 98 d)) (BufO o (.ref l)) := by
  refine at_make G (by k_is) (by k_is) (by k_is) fun x dx h1 h2 h3 h4 h5 => ?_
  refine Cl.mono (bufinit_spec G hr.make) fun v W' X' ⟨e, o, hx, hX, hO⟩ => ⟨e, x, dx, o, rfl, hX, hx, hO⟩
theorem norminit_spec {w : World} {A : Around} {W : Wd} {x dx p c : Addr} (G : GW w (Mine.hd.heap_1 w.params) W) (hr : Room A 1) :
    Cl PG w A W [(x, instObj 152 dx), (dx, emptyDict)] (.ref 135) [.ref x, .ref p, .ref c] fun v W' X' => v = .none ∧ ∃ o f, W' x = some (instObj 152 dx) ∧ X' = [(dx, o)] ∧ Le W W' ∧ AtO o f 2 ∧ f "parts" = some (.ref p) ∧ f "classes" = some (.ref c) ∧ f "class_of" = none ∧ f "wholes" = none := by
  refine Cl.enter [("self", .ref x), ("parts", .ref p), ("classes", .ref c)] G hr (by k_is) (by k_is) (fun s X S => by exact BindsTo.of_eq rfl) (by exact rfl) (by exact rfl) (by exact rfl) (by exact rfl) (by exact rfl) fun A' L g Q0 hr' hQ0 => ?_
  dsimp only [mB, List.foldl]
  refine Tr.freeze fun W₁ hx le => ?_
  have ha0 := atO_nil
  wtm_at "zgo"
  exact ⟨rfl, _, _, hx, rfl, le, (by assumption), by wtm_at "zvr", by wtm_at "zvr", by wtm_at "zvr", by wtm_at "zvr"⟩
theorem normmake_spec {w : World} {A : Around} {W : Wd} {p c : Addr} {N : Nm} {pk ck : List (Int × Value)} (G : GW w (Mine.hd.heap_1 w.params) W) (hr : Room A 2) (hp : DctW PG w W p pk) (hpk : All2 (PartV W) pk N.parts) (hc : DctW PG w W c ck) (hck : All2 IntV ck N.cls) :
    Cl PG w A W [] (.ref 152) [.ref p, .ref c] fun v W' X' => ∃ x, And3 (v = .ref x) (X' = []) (NormW PG w W' x N) := by
  refine Cl.freeze (P := fun v W' X' => Ex4 fun x dx o f => And9 (v = .ref x) (W' x = some (instObj 152 dx)) (X' = [(dx, o)]) (Le W W') (AtO o f 2) (f "parts" = some (.ref p)) (f "classes" = some (.ref c)) (f "class_of" = none) (f "wholes" = none)) ?_ fun v W' X' ⟨x, dx, o, f, e, h1, h2, h3, h4, h5, h6, h7, h8⟩ => ?_
  · refine at_make G (by k_is) (by k_is) (by k_is) fun x dx h1 h2 h3 h4 h5 => ?_
    exact Cl.mono (norminit_spec G hr.make) fun v W' X' ⟨e, o, f, h1, h2, h3, h4, h5, h6, h7, h8⟩ => ⟨e, x, dx, o, f, rfl, h1, h2, h3, h4, h5, h6, h7, h8⟩
  · refine ⟨dx, o, [], h2, fun W'' hd le => ⟨x, e, rfl, dx, o, f, p, c, pk, ck, le _ _ h1, hd, h4, h5, h6, h7, h8, (hp.up h3).up le, hpk.mono fun _ _ q => (q.up h3).up le, (hc.up h3).up le, hck⟩⟩
end
section -- F7
theorem Tup2.tupW {W : Wd} {v : Value} {p : Int × Int} (h : Tup2 W v p) : ∃ a t u, v = .ref a ∧ TupW W a [.int p.1 t, .int p.2 u] := let ⟨a, t, u, e, h⟩ := h; ⟨a, t, u, e, tupW_new h⟩

theorem partsof_spec {w : World} {A : Around} {W : Wd} {X : Led} {x : Addr} {N : Nm} {c : Int} {t : Tok} (G : GW w (Mine.hd.heap_1 w.params) W) (hr : Room A 2) (hc : NormW PG w W x N) (hb : c < 1000) :
    Cl PG w A W X (.ref 177) [.ref x, .int c t] fun v W' X' => (match N.partsOf c with | none => v = .none | some p => Tup2 W' v p) ∧ X' = X := by
  refine und fun Gq hGq => ?_
  obtain ⟨dx, od, f, p, cc, pk, ck, h1, h2, h3, h4, h5, h6, h7, h8, h9, h10, h11⟩ := hc
  refine hGq ?_
  clear hGq Gq
  refine Cl.enter [("normal", .ref x), ("code", .int c t)] G hr (by k_is) (by k_is) (fun s X S => by exact BindsTo.of_eq rfl) (by exact rfl) (by exact rfl) (by exact rfl) (by exact rfl) (by exact rfl) fun A' L g Q0 hr' hQ0 => ?_
  dsimp only [mB, List.foldl]
  rcases look_of (fun _ _ h => h.1) h9 c with ⟨q1, q2⟩ | ⟨a, b, q1, q2, q3⟩
  · have hs : (valueAt pk c).isSome = false := by rw [q2]; rfl
    wtm_at "zgo"
    refine Tr.call0 (hparts_spec G hr' hb) fun v W' le e => ?_
    wtm_at "zgo"
    exact ⟨by rw [show N.partsOf c = none from q1]; exact e, rfl⟩
  · have hs : (valueAt pk c).isSome = true := by rw [q2]; rfl
    wtm_at "zgo"
    exact ⟨by rw [show N.partsOf c = some b from q1]; exact q3.2, rfl⟩
theorem splitonce_spec {w : World} {A : Around} {W : Wd} {X : Led} {x : Addr} {N : Nm} {v0 : Value} {ns : List Int} (G : GW w (Mine.hd.heap_1 w.params) W) (hr : Room A 3) (hc : NormW PG w W x N) (hv : RowV W v0 ns) (hne : ns ≠ []) (hb : ∀ c ∈ ns, c < 1000) (hz : ns.length ≤ 1000) :
    Cl PG w A W X (.ref 191) [.ref x, v0] fun v W' X' => (match N.split ns with | none => v = .none | some ms => RowV W' v ms) ∧ X' = X := by
  refine und fun Gq hGq => ?_
  obtain ⟨l, vs, rfl, hl, hi⟩ := hv
  refine hGq ?_
  clear hGq Gq
  obtain ⟨c, r, rfl⟩ : ∃ c r, ns = c :: r := by cases ns with | nil => exact absurd rfl hne | cons c r => exact ⟨c, r, rfl⟩
  cases hi with
  | cons _ t hi =>
  rename_i vs
  have hlen := hi.length
  simp only [List.length_cons] at hz
  refine Cl.enter [("normal", .ref x), ("codes", .ref l)] G hr (by k_is) (by k_is) (fun s X S => by exact BindsTo.of_eq rfl) (by exact rfl) (by exact rfl) (by exact rfl) (by exact rfl) (by exact rfl) fun A' L g Q0 hr' hQ0 => ?_
  dsimp only [mB, List.foldl]
  wtm_at "zgo"
  refine Tr.call0 (partsof_spec G hr' hc (hb c List.mem_cons_self)) fun v W₁ le e => ?_
  cases q : N.partsOf c with
  | none =>
    rw [q] at e
    subst e
    wtm_at "zgo"
    exact ⟨by rw [show N.split (c :: r) = none by simp [Nm.split, q]]; rfl, rfl⟩
  | some ab =>
    rw [q] at e
    refine und fun Gq hGq => ?_
    obtain ⟨a, b⟩ := ab
    obtain ⟨p, t1, t2, rfl, hp⟩ := Tup2.tupW e
    refine hGq ?_
    clear hGq Gq
    have hl1 := hl.up le
    wtm_at "zgo"
    by_cases hb0 : b = 0
    · have h' : (b == 0) = true := by simp [hb0]
      wtm_at "zgo"
      refine nw_lstW (by rw [sizeLine_eq]; simp) fun a1 W2 ha le2 => ?_
      have hl2 := hl1.up le2
      wtm_at "zgo"
      intro sl W3 hsl le3
      refine su_slc (hl2.up le3).x hsl (IsPart.int _ _) IsPart.none (fun i e => by cases e; decide) (fun i e => by cases e) (by rw [sizeLine_eq]; simp; omega) (by with_unfolding_all rfl) fun r1 W4 h4 le4 => ?_
      refine bo_addl (LstW.x (lstW_new (le4 _ _ (le3 _ _ ha)))) (LstW.x (lstW_new h4)) (by rw [sizeLine_eq]; simp; omega) fun r2 W5 h5 le5 => ?_
      wtm_at "zgo"
      refine ⟨?_, rfl⟩
      rw [show N.split (c :: r) = some (a :: r) by simp [Nm.split, q, hb0]]
      exact ⟨_, _, rfl, lstW_new h5, by simpa using IntsAre.cons _ _ hi⟩
    · have h' : (b == 0) = false := by simp [hb0]
      wtm_at "zgo"
      refine nw_lstW (by rw [sizeLine_eq]; simp) fun a1 W2 ha le2 => ?_
      have hl2 := hl1.up le2
      wtm_at "zgo"
      intro sl W3 hsl le3
      refine su_slc (hl2.up le3).x hsl (IsPart.int _ _) IsPart.none (fun i e => by cases e; decide) (fun i e => by cases e) (by rw [sizeLine_eq]; simp; omega) (by with_unfolding_all rfl) fun r1 W4 h4 le4 => ?_
      refine bo_addl (LstW.x (lstW_new (le4 _ _ (le3 _ _ ha)))) (LstW.x (lstW_new h4)) (by rw [sizeLine_eq]; simp; omega) fun r2 W5 h5 le5 => ?_
      wtm_at "zgo"
      refine ⟨?_, rfl⟩
      rw [show N.split (c :: r) = some (a :: b :: r) by simp [Nm.split, q, hb0]]
      exact ⟨_, _, rfl, lstW_new h5, by simpa using IntsAre.cons _ _ (IntsAre.cons _ _ hi)⟩
end
section -- F8
theorem splits_spec {w : World} {A : Around} {W : Wd} {X : Led} {x : Addr} {N : Nm} {c : Int} {t : Tok} (G : GW w (Mine.hd.heap_1 w.params) W) (hr : Room A 4) (hc : NormW PG w W x N) (hN : N.Ok) (hb : c < 1000) :
    Cl PG w A W X (.ref 198) [.ref x, .int c t] fun v W' X' => (∃ fl vs, v = .ref fl ∧ LstW W' fl vs ∧ All2 (RowV W') vs (N.chain 8 [c])) ∧ X' = X := by
  refine Cl.freeze (P := fun v W' X' => Ex3 fun fl fo vs => And4 (v = .ref fl) (X' = (fl, fo) :: X) (PlO fo vs) (All2 (RowV W') vs (N.chain 8 [c]))) ?_ fun v W' X' ⟨fl, fo, vs, e, h1, h2, h3⟩ => ⟨fl, fo, X, h1, fun W'' hw le => ⟨⟨fl, vs, e, ⟨fo, hw, h2.lst⟩, h3.mono fun _ _ q => q.up le⟩, rfl⟩⟩
  refine Cl.enter [("normal", .ref x), ("code", .int c t)] G hr (by k_is) (by k_is) (fun s X S => by exact BindsTo.of_eq rfl) (by exact rfl) (by exact rfl) (by exact rfl) (by exact rfl) (by exact rfl) fun A' L g Q0 hr' hQ0 => ?_
  dsimp only [mB, List.foldl]
  wtm_at "zgo"
  refine nw_lstW (by rw [sizeLine_eq]; simp) fun a1 W1 ha le1 => ?_
  wtm_at "zgo"
  refine nw_lst (by rw [sizeLine_eq]; simp) fun fl hf1 hf2 => ?_
  wtm_at "zgo"
  refine ex_while (J := fun n m' W' X' => Ex4 fun done row fo vs => And11 (n + done.length = 8) (Le W W') (X' = (fl, fo) :: X) (PlO fo vs) (All2 (RowV W') vs (done ++ [row])) (done ++ N.chain n row = N.chain 8 [c]) (row ≠ []) (row.length ≤ 1 + done.length) ((∀ c ∈ row, c < 1000)) (m' "normal" = some (.ref x)) (m' "found" = some (.ref fl))) 8 ?_ ?_
  · refine ⟨[], [c], _, _, rfl, le1, rfl, plO _, .cons ⟨a1, _, rfl, lstW_new ha, .cons _ _ .nil⟩ .nil, rfl, nofun, by simp, fun c' h => by rw [List.mem_singleton.mp h]; exact hb, by wtm_at "zvr", by wtm_at "zvr"⟩
  · intro n m' W' X' g' T0 hT0 hJ1 Gq hGq
    obtain ⟨done, row, fo, vs, hn, le, rfl, hp, hA, hch, hne, hlen, hbd, v1, v2⟩ := hJ1
    refine hGq _ ?_
    clear hGq Gq
    have G' := G.up le
    have hpl := hp.lst
    have hl := hA.length
    simp only [List.length_append, List.length_singleton] at hl
    wtm_at "zgo"
    refine ca_len (by wtm_at "zlx") (by rw [sizeLine_eq]; omega) fun _ => ?_
    wtm_at "zgo"
    wtm_at "zite"
    · rename_i hle
      refine und fun Gq hGq => ?_
      obtain ⟨vs0, v0, rfl, hA0, hR⟩ := hA.unsnoc
      refine hGq ?_
      clear hGq Gq
      wtm_at "zgo"
      refine Tr.call0 (splitonce_spec G' hr' (hc.up le) hR hne hbd (by omega)) fun v W2 le2 e => ?_
      have G2 := G'.up le2
      obtain ⟨n, rfl⟩ : ∃ k, n = k + 1 := ⟨n - 1, by omega⟩
      cases q : N.split row with
      | none =>
        rw [q] at e
        subst e
        wtm_at "zgo"
        refine ⟨fl, fo, _, rfl, rfl, hp, ?_⟩
        rw [← hch, Nm.chain, q]
        exact hA.mono fun _ _ q => q.up le2
      | some r =>
        rw [q] at e
        refine und fun Gq hGq => ?_
        obtain ⟨l2, vs2, rfl, hl2, hi2⟩ := e
        refine hGq ?_
        clear hGq Gq
        wtm_at "zgo"
        refine gm_app (.inr (.head _)) hp ?_
        wtm_at "zgo"
        refine ca_app hp (by rw [sizeLine_eq]; omega) fun o' ho' => ?_
        refine ⟨rfl, ?_⟩
        wtm_at "zgo"
        obtain ⟨s1, s2, s3⟩ := Nm.split_ok hN q hbd
        refine ⟨n, by omega, done ++ [row], r, o', _, by rw [List.length_append, List.length_singleton]; omega, le.trans le2, rfl, ho', (hA.mono fun _ _ q => q.up le2).snoc ⟨l2, vs2, rfl, hl2, hi2⟩, ?_, s1, by rw [List.length_append, List.length_singleton]; omega, s3, by wtm_at "zvr", by wtm_at "zvr"⟩
        rw [← hch, Nm.chain, q]; simp
    · rename_i hle
      obtain rfl : n = 0 := by omega
      wtm_at "zgo"
      exact ⟨fl, fo, vs, rfl, rfl, hp, by rw [← hch]; exact hA⟩
end
section -- F9
theorem Nm.chain_mem {N : Nm} (hN : N.Ok) : ∀ (n : Nat) (row r : List Int), (∀ c ∈ row, c < 1000) → r ∈ N.chain n row → r.length ≤ row.length + n ∧ ∀ c ∈ r, c < 1000
  | 0, row, r, hb, h => by
    rw [Nm.chain, List.mem_singleton] at h
    subst h; exact ⟨Nat.le_refl _, hb⟩
  | n + 1, row, r, hb, h => by
    rw [Nm.chain] at h
    rcases List.mem_cons.mp h with rfl | h
    · exact ⟨by omega, hb⟩
    · cases q : N.split row with
      | none => rw [q] at h; cases h
      | some r' =>
        rw [q] at h
        refine und fun Gq hGq => ?_
        obtain ⟨_, s2, s3⟩ := Nm.split_ok hN q hb
        obtain ⟨h1, h2⟩ := Nm.chain_mem hN n r' r s3 h
        refine hGq ?_
        clear hGq Gq
        exact ⟨by omega, h2⟩
theorem ints_filter {vs : List Value} {ns : List Int} (h : IntsAre vs ns) (i : Nat) (p : Int → Bool) {ys : List Value} (hy : IntsAre ys ((ns.take i).filter p)) {c : Int} (hc : ns[i]? = some c) :
    (p c = true → ∀ t, IntsAre (ys ++ [.int c t]) ((ns.take (i + 1)).filter p)) ∧ (p c = false → IntsAre ys ((ns.take (i + 1)).filter p)) := by
  have e : ns.take (i + 1) = ns.take i ++ [c] := by
    rw [List.take_add_one, hc]; rfl
  rw [e, List.filter_append]
  refine ⟨fun hp t => ?_, fun hp => ?_⟩
  · rw [List.filter_cons_of_pos hp, List.filter_nil]; exact ksk_snoc hy
  · rw [List.filter_cons_of_neg (by rw [hp]; exact Bool.false_ne_true), List.filter_nil, List.append_nil]; exact hy
theorem hadparts_spec {w : World} {A : Around} {W : Wd} {X : Led} {x y : Addr} {N : Nm} {kn : List Int} {c : Int} {t : Tok} (G : GW w (Mine.hd.heap_1 w.params) W) (hr : Room A 5) (hc : NormW PG w W x N) (hN : N.Ok) (hb : c < 1000) (hk : CharW PG w W y kn) (hk0 : ¬ (0 : Int) ∈ kn) :
    Cl PG w A W X (.ref 203) [.ref x, .ref y, .int c t] fun v W' X' => RowV W' v (N.had kn c) ∧ X' = X := by
  refine Cl.enter [("normal", .ref x), ("charmap", .ref y), ("code", .int c t)] G hr (by k_is) (by k_is) (fun s X S => by exact BindsTo.of_eq rfl) (by exact rfl) (by exact rfl) (by exact rfl) (by exact rfl) (by exact rfl) fun A' L g Q0 hr' hQ0 => ?_
  dsimp only [mB, List.foldl]
  wtm_at "zgo"
  refine ex_for (fun _ => rfl) ?_
  wtm_at "zgo"
  refine Tr.call0G (splits_spec G hr' hc hN hb) fun Gq W1 v le hGq hK1 => ?_
  obtain ⟨fl, vs, e, hl, hA⟩ := hK1
  subst e
  refine hGq _ ?_
  clear hGq Gq
  wtm_at "zgo"
  refine ca_rev hl.x fun r hr1 hr2 => ?_
  have hlen := hA.length
  have hcl := Nm.chain_len (N := N) 8 [c]
  refine ⟨X, vs.length, _, itr_rev hr'.hd hl, fun i m' W' X' => And5 (Le W1 W') (X' = X) (((N.chain 8 [c]).reverse.take i).find? (fun row => row.all fun x => decide (x ∈ kn)) = none) (m' "charmap" = some (.ref y)) (m' "code" = some (.int c t)), ⟨Le.refl _, rfl, rfl, by wtm_at "zvr", by wtm_at "zvr"⟩, ?_, ?_⟩
  · intro i v m' W' X' g' T0 hT0 hi hP hle hJ1 Gq hGq
    obtain ⟨_, rfl, hJ, v1, v2⟩ := hJ1
    have G' := G.up (le.trans hle)
    obtain ⟨ns, hns, hR⟩ := hA.get' _ _ hP
    have hns' : (N.chain 8 [c]).reverse[i]? = some ns := by
      rw [List.getElem?_reverse (by omega)]
      rw [← hns]; congr 1; omega
    obtain ⟨l, us, rfl, hl1, hi1⟩ := hR
    refine hGq _ _ ?_
    clear hGq Gq
    have hl1 := hl1.up hle
    have hch := Nm.chain_mem hN 8 [c] ns (fun c' h => by rw [List.mem_singleton.mp h]; exact hb) (List.mem_of_getElem? hns)
    simp only [List.length_singleton] at hch
    have hlen1 : us.length ≤ 1000 := by rw [hi1.length]; omega
    wtm_at "zgo"
    refine ev_comp ["one"] (fun _ => rfl) (by with_unfolding_all rfl) (by decide) rfl (by decide) (cl1 rfl) (cl1 ⟨rfl, rfl⟩) ?_
    wtm_at "zgo"
    refine ⟨X', us.length, _, itr_list hr'.hd hl1, by rw [sizeLine_eq]; omega, fun j ys W2 X2 => Le W' W2 ∧ X2 = X' ∧ IntsAre ys ((ns.take j).filter fun c => decide (¬ c ∈ kn)), ⟨Le.refl _, rfl, .nil⟩, ?_, ?_⟩
    · intro Cn j ys v mi W2 X2 g2 hj hv hle2 hag hJ2 _ T1 hT1 Gq hGq
      obtain ⟨_, rfl, hJ2⟩ := hJ2
      have vc : mi "charmap" = some (.ref y) := ag_get hag (by decide) rfl (by wtm_at "zvr")
      have G2 := G'.up hle2
      obtain ⟨cj, hcj⟩ : ∃ cj, ns[j]? = some cj := ⟨ns[j]'(by rw [← hi1.length]; exact hj), by simp⟩
      obtain ⟨tj, hv'⟩ := hi1.get j cj hcj
      refine hGq _ _ ?_
      clear hGq Gq
      rw [hv'] at hv
      obtain rfl := Option.some.inj hv
      refine und fun Gq hGq => ?_
      obtain ⟨f1, f2⟩ := ints_filter hi1 j _ hJ2 hcj
      have hk2 := ((hk.up le).up hle).up hle2
      obtain ⟨dx, od, f, d, kvs, k1, k2, k3, k4, k5, k6, k7⟩ := id hk2
      refine hGq ?_
      clear hGq Gq
      wtm_at "zgo"
      refine ts_one ?_
      wtm_at "zgo"
      refine Tr.call0G (glyph_spec G2 (hr'.le (by decide)) hk2) fun Gq W3 v le3 hGq hK2 => ?_
      obtain ⟨t3, e3⟩ := hK2
      subst e3
      refine hGq _ ?_
      clear hGq Gq
      wtm_at "zgo"
      by_cases hm : cj ∈ kn
      · refine ite_f (by rw [if_pos hm, beq_eq_false_iff_ne]; intro q; exact hk0 (q ▸ hm)) ?_
        wtm_at "zgo"
        exact ⟨(hag.upd (by decide)), hle2.trans le3, rfl, f2 (by simp [hm])⟩
      · refine ite_t (by rw [if_neg hm]; rfl) ?_
        wtm_at "zgo"
        exact ⟨(hag.upd (by decide)), hle2.trans le3, rfl, f1 (by simp [hm]) _⟩
    · intro a o ys W2 X2 hle2 ho hyl hJ2 ha1 ha2 Gq hGq
      refine hGq _ ?_
      clear hGq Gq
      obtain ⟨_, rfl, hJ2⟩ := hJ2
      rw [List.take_of_length_le (by rw [hi1.length]; exact Nat.le_refl _)] at hJ2
      wtm_at "zgo"
      refine Tr.freeze fun W3' hw3 le3' => ?_
      refine nw_lstW (by rw [sizeLine_eq]; simp) fun b W3 hb3 le4 => ?_
      have le3 := le3'.trans le4
      refine co_eqi (LstW.x (LstW.up ⟨o, hw3, ho⟩ le4)) hJ2 (LstW.x (lstW_new hb3)) .nil hr'.eq ?_
      wtm_at "zgo"
      have he : (ns.filter fun c => decide (¬ c ∈ kn)) = [] ↔ (ns.all fun x => decide (x ∈ kn)) = true := by
        rw [List.filter_eq_nil_iff, List.all_eq_true]
        exact ⟨fun h z hz => by simpa using h z hz, fun h z hz => by simpa using h z hz⟩
      have hN1 : ((N.chain 8 [c]).reverse.take (i + 1)).find? (fun row => row.all fun x => decide (x ∈ kn)) = if (ns.all fun x => decide (x ∈ kn)) = true then some ns else none := by
        rw [List.take_add_one, hns', List.find?_append, hJ]
        simp [List.find?_cons]
        split <;> simp_all
      by_cases hall : (ns.all fun x => decide (x ∈ kn)) = true
      · refine ite_t (decide_eq_true (he.mpr hall)) ?_
        wtm_at "zgo"
        refine ⟨?_, rfl⟩
        have : N.had kn c = ns := by
          rw [if_pos hall] at hN1
          unfold Nm.had
          rw [← List.take_append_drop (i + 1) (N.chain 8 [c]).reverse, List.find?_append, hN1]; rfl
        rw [this]
        exact ⟨l, us, rfl, (hl1.up hle2).up le3, hi1⟩
      · refine ite_f (decide_eq_false fun q => hall (he.mp q)) ?_
        wtm_at "zgo"
        rw [if_neg hall] at hN1
        exact ⟨hle.trans (hle2.trans le3), rfl, hN1, v1, v2⟩
  · intro m' W' X' hle hJ2 Gq hGq
    obtain ⟨_, rfl, hJ, v1, v2⟩ := hJ2
    refine hGq _ ?_
    clear hGq Gq
    wtm_at "zgo"
    refine nw_lstW (by rw [sizeLine_eq]; simp) fun b W3 hb3 le3 => ?_
    wtm_at "zgo"
    refine ⟨?_, rfl⟩
    have : N.had kn c = [c] := by
      unfold Nm.had
      rw [List.take_of_length_le (by rw [List.length_reverse, hlen]; exact Nat.le_refl _)] at hJ
      rw [hJ]; rfl
    rw [this]
    exact ⟨b, _, rfl, lstW_new hb3, .cons _ _ .nil⟩
end
section -- F10
noncomputable def Nm.apart1 (N : Nm) (kn : List Int) (r : Rw) : List Rw := (if 0 < r.2.2.1 then [r.1] else N.had kn r.1).map fun c => (c, r.2)
noncomputable def Nm.apartRows (N : Nm) (kn : List Int) (rs : List Rw) : List Rw := rs.flatMap (N.apart1 kn)
theorem perm_new {p q x : Addr × Obj} {A B : Led} : (p :: x :: q :: (A ++ B)).Perm (p :: q :: (A ++ (B ++ [x]))) := by
  refine List.Perm.cons _ ((List.Perm.swap _ _ _).trans (List.Perm.cons _ ?_))
  rw [← List.append_assoc]
  exact (List.perm_append_singleton x (A ++ B)).symm
theorem InfO.code {f : Vm} {c : Int} {t : Tok} {r : Rw} (hf : InfA f r) : InfA (upd f "code" (.int c t)) (c, r.2) := by
  refine und fun Gq hGq => ?_
  obtain ⟨⟨t1, a1⟩, ⟨t2, a2⟩, ⟨t3, a3⟩, ⟨t4, a4⟩, ⟨b5, a5⟩, ⟨u6, t6, a6⟩, ⟨u7, t7, a7⟩, ⟨u8, t8, a8⟩, ⟨u9, t9, a9⟩, ⟨u10, t10, a10⟩, ⟨u11, t11, a11⟩, ⟨u12, t12, a12⟩, ⟨u13, t13, a13⟩, ⟨u14, t14, a14⟩, ⟨u15, t15, a15⟩, a16⟩ := hf
  refine hGq ?_
  clear hGq Gq
  constructor
  all_goals first
    | exact ⟨_, by wtm_at "zvr"⟩
    | exact ⟨_, _, by wtm_at "zvr"⟩
    | wtm_at "zvr"
theorem Nm.had_len {N : Nm} (hN : N.Ok) {kn : List Int} {c : Int} (hc : c < 1000) : (N.had kn c).length ≤ 9 ∧ ∀ x ∈ N.had kn c, x < 1000 := by
  unfold Nm.had
  cases q : (N.chain 8 [c]).reverse.find? (fun row => row.all fun x => decide (x ∈ kn)) with
  | none => exact ⟨by simp, fun x hx => by rw [List.mem_singleton.mp hx]; exact hc⟩
  | some row =>
    have := Nm.chain_mem hN 8 [c] row (fun c' h => by rw [List.mem_singleton.mp h]; exact hc) (List.mem_reverse.mp (List.mem_of_find?_eq_some q))
    simpa using this
theorem Nm.apartRows_len {N : Nm} (hN : N.Ok) {kn : List Int} : ∀ {rs : List Rw}, (∀ r ∈ rs, r.1 < 1000) → (N.apartRows kn rs).length ≤ 9 * rs.length
  | [], _ => by simp [Nm.apartRows]
  | r :: rs, h => by
    have ih := Nm.apartRows_len hN (kn := kn) (rs := rs) fun x hx => h x (List.mem_cons_of_mem _ hx)
    have e : N.apartRows kn (r :: rs) = N.apart1 kn r ++ N.apartRows kn rs := by simp [Nm.apartRows]
    have : (N.apart1 kn r).length ≤ 9 := by
      unfold Nm.apart1
      rw [List.length_map]
      split
      · simp
      · exact (Nm.had_len hN (h r List.mem_cons_self)).1
    rw [e, List.length_append, List.length_cons]; omega
theorem takeapart_spec {w : World} {A : Around} {W : Wd} {bx bd l nx cx : Addr} {bo : Obj} {N : Nm} {kn : List Int} {is : List Inf} {rs : List Rw} (G : GW w (Mine.hd.heap_1 w.params) W) (hr : Room A 6)
    (hb : W bx = some (instObj 98 bd)) (hbo : BufO bo (.ref l)) (hl : LstW W l (refs is)) (hi : All2 (InfW W) is rs) (hn : NormW PG w W nx N) (hN : N.Ok) (hk : CharW PG w W cx kn) (hk0 : ¬ (0 : Int) ∈ kn) (hcd : ∀ r ∈ rs, r.1 < 1000) (hz : rs.length ≤ 100) :
    Cl PG w A W ((bd, bo) :: led is) (.ref 236) [.ref bx, .ref nx, .ref cx] fun v W' X' => v = .none ∧ ∃ bo' l' js, X' = (bd, bo') :: led js ∧ BufO bo' (.ref l') ∧ LstW W' l' (refs js) ∧ All2 (InfW W') js (N.apartRows kn rs) := by
  obtain ⟨f, hbf, hbr⟩ := hbo
  refine Cl.enter [("buffer", .ref bx), ("normal", .ref nx), ("charmap", .ref cx)] G hr (by k_is) (by k_is) (fun s X S => by exact BindsTo.of_eq rfl) (by exact rfl) (by exact rfl) (by exact rfl) (by exact rfl) (by exact rfl) fun A' L g Q0 hr' hQ0 => ?_
  dsimp only [mB, List.foldl]
  wtm_at "zgo"
  refine nw_lst (by rw [sizeLine_eq]; simp) fun fl hf1 hf2 => ?_
  wtm_at "zgo"
  refine ex_for (fun _ => rfl) ?_
  wtm_at "zgo"
  have hlen := hi.length
  refine ⟨_, (refs is).length, _, itr_list hr'.hd hl, fun i m' W' X' => Ex2 fun fo js => And7 (X'.Perm ((fl, fo) :: (bd, bo) :: (led is ++ led js))) (PlO fo (refs js)) (All2 (InfW W') js (N.apartRows kn (rs.take i))) (m' "buffer" = some (.ref bx)) (m' "normal" = some (.ref nx)) (m' "charmap" = some (.ref cx)) (m' "found" = some (.ref fl)), ⟨_, [], by simp [led, refs], plO _, .nil, by wtm_at "zvr", by wtm_at "zvr", by wtm_at "zvr", by wtm_at "zvr"⟩, ?_, ?_⟩
  · intro i v m' W' X' g' T0 hT0 hii hP hle hJ1 Gq hGq
    obtain ⟨fo, js, hpm, hp, hA, v1, v2, v3, v4⟩ := hJ1
    obtain ⟨j, hj, rfl⟩ := refs_get hP
    obtain ⟨r, hrr, hR⟩ := hi.get' _ _ hj
    refine hGq _ _ ?_
    clear hGq Gq
    have hR := hR.up hle
    refine Tr.perm hpm ?_
    have G' := G.up hle
    refine und fun Gq hGq => ?_
    obtain ⟨hx, fj, hja, hjf⟩ := id hR
    obtain ⟨t1, a1⟩ := hjf.glyph
    obtain ⟨t2, a2⟩ := hjf.code
    refine hGq ?_
    clear hGq Gq
    have a16 := hjf.cop
    have hmem : (j.d, j.o) ∈ led is ++ led js := List.mem_append_left _ (mem_led (List.mem_of_getElem? hj))
    have hr2 : r.1 < 1000 := hcd r (List.mem_of_getElem? hrr)
    have hrow : ∀ c ∈ N.had kn r.1, c < 1000 := (Nm.had_len hN hr2).2
    have hcl : (if 0 < r.2.2.1 then [r.1] else N.had kn r.1).length ≤ 9 := by
      split
      · simp
      · exact (Nm.had_len hN hr2).1
    have hil : i < rs.length := by rw [← hlen]; simpa [refs] using hii
    have hal : (N.apartRows kn (rs.take i)).length ≤ 9 * i := by
      have := Nm.apartRows_len hN (kn := kn) (rs := rs.take i) fun r hr => hcd r (List.mem_of_mem_take hr)
      rw [List.length_take] at this; omega
    wtm_at "zgo"
    refine ite_join (fun v m W2 X => And4 (Le W' W2) (X = (fl, fo) :: (bd, bo) :: (led is ++ led js)) (RowV W2 v (if 0 < r.2.2.1 then [r.1] else N.had kn r.1)) (m = upd m' "info" (.ref j.x))) (fun hc => ?_) (fun hc => ?_) ?_
    · have hc := of_decide_eq_true hc
      wtm_at "zgo"
      refine nw_lstW (by rw [sizeLine_eq]; simp) fun b W3 hb3 le3 => ⟨le3, rfl, ?_, rfl⟩
      rw [if_pos hc]
      exact ⟨b, _, rfl, lstW_new hb3, .cons _ _ .nil⟩
    · have hc := of_decide_eq_false hc
      wtm_at "zgo"
      refine Tr.call0 (hadparts_spec G' hr' (hn.up hle) hN hr2 (hk.up hle) hk0) fun v W3 le3 hv => ⟨le3, rfl, ?_, rfl⟩
      rw [if_neg hc]; exact hv
    intro v m2 W2 X2 hJ2 Gq hGq
    obtain ⟨le2, rfl, hrv, rfl⟩ := hJ2
    obtain ⟨rl, rvs, rfl, hrl, hri⟩ := hrv
    refine hGq _ _ _ _ ?_
    clear hGq Gq
    wtm_at "zgo"
    refine ex_for (fun _ => rfl) ?_
    wtm_at "zgo"
    refine ⟨_, rvs.length, _, itr_list hr'.hd hrl, fun k m3 W3 X3 => Le W2 W3 ∧ ∃ fo js', X3.Perm ((fl, fo) :: (bd, bo) :: (led is ++ led js')) ∧ PlO fo (refs js') ∧ All2 (InfW W3) js' (N.apartRows kn (rs.take i) ++ ((if 0 < r.2.2.1 then [r.1] else N.had kn r.1).take k).map fun c => (c, r.2)) ∧
      m3 "buffer" = some (.ref bx) ∧ m3 "normal" = some (.ref nx) ∧ m3 "charmap" = some (.ref cx) ∧ m3 "found" = some (.ref fl) ∧ m3 "info" = some (.ref j.x),
      ⟨Le.refl _, fo, js, List.Perm.refl _, hp, by simpa using hA.mono fun _ _ q => q.up le2, by wtm_at "zvr", by wtm_at "zvr", by wtm_at "zvr", by wtm_at "zvr", by wtm_at "zvr"⟩, ?_, ?_⟩
    · intro k v m3 W3 X3 g3 T0 hT0 hkk hPv hle3 hJ3 Gq hGq
      obtain ⟨_, fo', js', hpm', hp', hA', u1, u2, u3, u4, u5⟩ := hJ3
      refine hGq _ _ ?_
      clear hGq Gq
      refine Tr.perm hpm' ?_
      have G3 := (G'.up le2).up hle3
      have hR3 := (hR.up le2).up hle3
      refine und fun Gq hGq => ?_
      obtain ⟨hx3, _⟩ := id hR3
      obtain ⟨c, hc⟩ : ∃ c, (if 0 < r.2.2.1 then [r.1] else N.had kn r.1)[k]? = some c := ⟨(if 0 < r.2.2.1 then [r.1] else N.had kn r.1)[k]'(by rw [← hri.length]; exact hkk), by simp⟩
      obtain ⟨tc, hc'⟩ := hri.get k c hc
      refine hGq ?_
      clear hGq Gq
      rw [hc'] at hPv
      obtain rfl := Option.some.inj hPv
      have hmem3 : (j.d, j.o) ∈ led is ++ led js' := List.mem_append_left _ (mem_led (List.mem_of_getElem? hj))
      have hcc : c < 1000 := by
        have := List.mem_of_getElem? hc
        split at this
        · rw [List.mem_singleton.mp this]; exact hr2
        · exact hrow c this
      wtm_at "zgo"
      refine Tr.callAG (copied_spec (i := j) (r := r) G3 (hr'.le (by decide)) hR3 (.tail _ (.tail _ hmem3))) fun Gq W4 v X4 le4 hGq hK1 => ?_
      obtain ⟨x', d', o', e, hX4, hI⟩ := hK1
      subst e; subst hX4
      refine hGq _ _ ?_
      clear hGq Gq
      refine und fun Gq hGq => ?_
      obtain ⟨hx4, f4, ha4, hf4⟩ := hI
      obtain ⟨t6, a6⟩ := hf4.code
      refine hGq ?_
      clear hGq Gq
      wtm_at "zgo"
      refine Tr.perm (List.Perm.swap _ _ _) ?_
      refine gm_app (.inr (.head _)) hp' ?_
      wtm_at "zgo"
      have hjl : (refs js').length ≤ 9 * i + 9 := by
        rw [show (refs js').length = js'.length by simp [refs], hA'.length, List.length_append, List.length_map, List.length_take]; omega
      refine ca_app hp' (by rw [sizeLine_eq]; omega) fun o5 ho5 => ?_
      refine ⟨rfl, ?_⟩
      wtm_at "zgo"
      rename_i o4 hao4 
      refine ⟨hle3.trans le4, o5, js' ++ [⟨x', d', o4⟩], ?_, by simpa [refs] using ho5, ?_, by wtm_at "zvr", by wtm_at "zvr", by wtm_at "zvr", by wtm_at "zvr", by wtm_at "zvr"⟩
      · rw [led_append]; exact perm_new
      · rw [List.take_add_one, hc, List.map_append, ← List.append_assoc]
        exact (hA'.mono fun _ _ q => q.up le4).snoc ⟨hx4, _, hao4, InfO.code hf4⟩
    · intro m3 W3 X3 hle3 hJ4 Gq hGq
      obtain ⟨_, fo', js', hpm', hp', hA', u1, u2, u3, u4, u5⟩ := hJ4
      refine hGq _ ?_
      clear hGq Gq
      wtm_at "zgo"
      refine ⟨fo', js', hpm', hp', ?_, u1, u2, u3, u4⟩
      have e9 : (if 0 < r.2.2.1 then [r.1] else N.had kn r.1).take rvs.length = (if 0 < r.2.2.1 then [r.1] else N.had kn r.1) := List.take_of_length_le (by rw [hri.length]; exact Nat.le_refl _)
      rw [e9] at hA'
      have : N.apartRows kn (rs.take (i + 1)) = N.apartRows kn (rs.take i) ++ N.apart1 kn r := by
        rw [List.take_add_one, hrr]; simp [Nm.apartRows]
      rw [this]; exact hA'
  · intro m' W' X' hle hJ5 Gq hGq
    obtain ⟨fo, js, hpm, hp, hA, v1, v2, v3, v4⟩ := hJ5
    refine hGq _ ?_
    clear hGq Gq
    have : (rs.take (refs is).length) = rs := List.take_of_length_le (by simp [refs, hlen])
    rw [this] at hA
    refine Tr.perm hpm (Tr.freeze fun W2 hw le2 => ?_)
    refine Tr.sub (X' := (bd, bo) :: led js) (List.Sublist.cons₂ _ (List.sublist_append_right _ _)) ?_
    have hb2 := le2 _ _ (hle _ _ hb)
    have G2 := (G.up hle).up le2
    wtm_at "zgo"
    exact ⟨rfl, _, fl, js, rfl, ⟨_, (by assumption), by wtm_at "zvr"⟩, ⟨fo, hw, hp.lst⟩, hA.mono fun _ _ q => q.up le2⟩
end
section -- F11
noncomputable def clu (rs : List Rw) (k : Nat) : Int := ((rs[k]?).map (·.2.1)).getD 0
noncomputable def Mono (rs : List Rw) : Prop := ∀ i j, i ≤ j → j < rs.length → clu rs i ≤ clu rs j
theorem clu_of {rs : List Rw} {k : Nat} {r : Rw} (h : rs[k]? = some r) : clu rs k = r.2.1 := by unfold clu; rw [h]; rfl
theorem inf_at {W : Wd} {is : List Inf} {rs : List Rw} (hi : All2 (InfW W) is rs) {k : Nat} (hk : k < rs.length) : ∃ j r, is[k]? = some j ∧ rs[k]? = some r ∧ InfW W j r := by
  obtain ⟨j, hj, hR⟩ := hi.get k rs[k] (by simp)
  exact ⟨j, rs[k], hj, by simp, hR⟩
section
variable {prog : Program} {w : World} {A : Around} {env : Env} {g : Org} {m : Vm} {W : Wd} {X : Led} {Q : Value → Vm → Wd → Led → Prop} {value slice : Expr} {l : Addr} {u : Tok}
theorem su_inf {is : List Inf} {i : Int} {k : Nat} {j : Inf} (hl : LstX W X l (refs is)) (e : i = k) (hk : is[k]? = some j) (hz : is.length ≤ 1000000) (hs : subscripted slice false (.ref l) (.int i u) = operate [.ref l, .int i u] (getItem (.ref l) (.int i u))) (h : Q (.ref j.x) m W X) :
    Tr prog w A env g m W X (subscriptTail value slice (.ref l) (.int i u)) Q := by
  have : k < is.length := by
    rcases Nat.lt_or_ge k is.length with q | q
    · exact q
    · rw [List.getElem?_eq_none q] at hk; cases hk
  exact su_lst hl (by omega) (by omega) (by rw [e]; simp [refs, hk]) hs h
end
theorem Tr.cut {α : Type} {prog : Program} {w : World} {A : Around} {env : Env} {g : Org} {m : Vm} {W : Wd} {X : Led} {t : Sem α} {Q : α → Vm → Wd → Led → Prop} (P : α → Vm → Wd → Led → Prop) (h : Tr prog w A env g m W X t P) (k : ∀ a m' W' X', P a m' W' X' → ∀ Gq : α → Vm → Wd → Led → Prop, (∀ a m' W' X', Imp (Q a m' W' X') (Gq a m' W' X')) → Gq a m' W' X') : Tr prog w A env g m W X t Q := h.mono fun a m' W' X' p => k a m' W' X' p Q fun _ _ _ _ h => h
theorem widened_spec {w : World} {A : Around} {W : Wd} {X : Led} {l : Addr} {is : List Inf} {rs : List Rw} {b e : Nat} {t u : Tok} (G : GW w (Mine.hd.heap_1 w.params) W) (hr : Room A 1) (hl : LstW W l (refs is)) (hi : All2 (InfW W) is rs)
    (hX : ∀ i ∈ is, (i.d, i.o) ∈ X) (hb : b < e) (he : e ≤ rs.length) (hz : rs.length ≤ 1000) :
    Cl PG w A W X (.ref 116) [.ref l, .int b t, .int e u] fun v W' X' => (∃ f h : Nat, Tup2 W' v (f, h) ∧ f ≤ b ∧ e ≤ h ∧ h ≤ rs.length ∧ (∀ k, e ≤ k → k < h → clu rs k = clu rs (k - 1)) ∧ (h < rs.length → clu rs h ≠ clu rs (h - 1)) ∧
      (∀ k, f < k → k ≤ b → clu rs (k - 1) = clu rs k) ∧ (0 < f → clu rs (f - 1) ≠ clu rs f)) ∧ X' = X := by
  refine Cl.enter [("row", .ref l), ("begin", .int b t), ("end", .int e u)] G hr (by k_is) (by k_is) (fun s X S => by exact BindsTo.of_eq rfl) (by exact rfl) (by exact rfl) (by exact rfl) (by exact rfl) (by exact rfl) fun A' L g Q0 hr' hQ0 => ?_
  dsimp only [mB, List.foldl]
  have hlen := hi.length
  have hrl : (refs is).length = rs.length := by simp [refs, hlen]
  wtm_at "zgo"
  refine ex_while (J := fun n m' W' X' => Ex2 fun (h : Nat) (u : Tok) => And8 (n + h = rs.length) (e ≤ h) ((∀ k, e ≤ k → k < h → clu rs k = clu rs (k - 1))) (Le W W') (X' = X) (m' "row" = some (.ref l)) (m' "first" = some (.int b t)) (m' "behind" = some (.int h u))) (rs.length - e)
    ⟨e, u, by omega, Nat.le_refl _, fun k h1 h2 => by omega, Le.refl _, rfl, by wtm_at "zvr", by wtm_at "zvr", by wtm_at "zvr"⟩ ?_
  intro n m' W' X' g' T0 hT0 hJ1 Gq hGq
  obtain ⟨h, u', hn, hh1, hh2, le, rfl, v1, v2, v3⟩ := hJ1
  refine hGq _ ?_
  clear hGq Gq
  have G' := G.up le
  have hl' := hl.up le
  refine Tr.cut (fun b m2 W2 X2 => And4 ((b = true ↔ (h < rs.length ∧ clu rs h = clu rs (h - 1)))) (m2 = m') (W2 = W') (X2 = X')) ?_ ?_
  · wtm_at "zgo"
    refine ca_len (by wtm_at "zlx") (by rw [hrl, sizeLine_eq]; omega) fun _ => ?_
    wtm_at "zgo"
    wtm_at "zite"
    · rename_i hlt
      have hlt : h < rs.length := by rw [hrl] at hlt; omega
      refine und fun Gq hGq => ?_
      obtain ⟨j1, r1, q1, q2, hx1, f1, ha1, hf1⟩ := inf_at hi hlt
      obtain ⟨j2, r2, p1, p2, hx2, f2, ha2, hf2⟩ := inf_at hi (show h - 1 < rs.length by omega)
      refine hGq ?_
      clear hGq Gq
      have hm1 := hX j1 (List.mem_of_getElem? q1)
      have hm2 := hX j2 (List.mem_of_getElem? p1)
      replace hx1 := le _ _ hx1
      replace hx2 := le _ _ hx2
      obtain ⟨t1, e1⟩ := hf1.clus
      obtain ⟨t2, e2⟩ := hf2.clus
      wtm_at "zgo"
      refine su_inf hl'.x rfl q1 (by omega) (by with_unfolding_all rfl) ?_
      wtm_at "zgo"
      refine su_inf hl'.x (k := h - 1) (by omega) p1 (by omega) (by with_unfolding_all rfl) ?_
      wtm_at "zgo"
      have c1 := clu_of q2
      have c2 := clu_of p2
      by_cases hq : r1.2.1 = r2.2.1
      · refine ite_t (by rw [hq]; exact beq_self_eq_true _) ?_
        wtm_at "zgo"
        exact ⟨⟨fun _ => ⟨hlt, by rw [c1, c2, hq]⟩, fun _ => rfl⟩, rfl, rfl, rfl⟩
      · refine ite_f (beq_eq_false_iff_ne.mpr hq) ?_
        exact ⟨⟨nofun, fun h => absurd (c1.symm.trans (h.2.trans c2)) hq⟩, rfl, rfl, rfl⟩
    · rename_i hlt
      rw [hrl] at hlt
      exact ⟨⟨nofun, fun h => absurd h.1 (by omega)⟩, rfl, rfl, rfl⟩
  intro bb m2 W2 X2 hJ2 Gq hGq
  obtain ⟨hbb, rfl, rfl, rfl⟩ := hJ2
  refine hGq _ _ _ _ ?_
  clear hGq Gq
  cases bb with
  | true =>
    obtain ⟨hlt, hq⟩ := hbb.mp rfl
    refine ite_t rfl ?_
    wtm_at "zgo"
    refine ⟨n - 1, by omega, h + 1, _, by omega, by omega, fun k h1 h2 => ?_, le, rfl, by wtm_at "zvr", by wtm_at "zvr", by wtm_at "zvr"⟩
    rcases Nat.lt_or_ge k h with h3 | h3
    · exact hh2 k h1 h3
    · obtain rfl : k = h := by omega
      exact hq
  | false =>
    have hstop : h < rs.length → clu rs h ≠ clu rs (h - 1) := fun q1 q2 => by have := hbb.mpr ⟨q1, q2⟩; cases this
    refine ite_f rfl ?_
    wtm_at "zgo"
    refine ex_while (J := fun n m' W' X' => Ex2 fun (f : Nat) (u : Tok) => And8 (n = f) (f ≤ b) ((∀ k, f < k → k ≤ b → clu rs (k - 1) = clu rs k)) (Le W W') (X' = X2) (m' "row" = some (.ref l)) (m' "first" = some (.int f u)) (m' "behind" = some (.int h u'))) b
      ⟨b, t, rfl, Nat.le_refl _, fun k h1 h2 => by omega, le, rfl, by wtm_at "zvr", by wtm_at "zvr", by wtm_at "zvr"⟩ ?_
    intro n m3 W3 X3 g3 T0 hT0 hJ3 Gq hGq
    obtain ⟨f, u3, rfl, hf1, hf2, le3, rfl, v1, v2, v3⟩ := hJ3
    refine hGq _ ?_
    clear hGq Gq
    have G3 := G.up le3
    have hl3 := hl.up le3
    refine Tr.cut (fun b m2 W2 X2 => And4 ((b = true ↔ (0 < n ∧ clu rs (n - 1) = clu rs n))) (m2 = m3) (W2 = W3) (X2 = X3)) ?_ ?_
    · wtm_at "zgo"
      wtm_at "zite"
      · rename_i hlt
        have hlt : 0 < n := by omega
        refine und fun Gq hGq => ?_
        obtain ⟨j1, r1, q1, q2, hx1, f1, ha1, hf1'⟩ := inf_at hi (show n - 1 < rs.length by omega)
        obtain ⟨j2, r2, p1, p2, hx2, f2, ha2, hf2'⟩ := inf_at hi (show n < rs.length by omega)
        refine hGq ?_
        clear hGq Gq
        have hm1 := hX j1 (List.mem_of_getElem? q1)
        have hm2 := hX j2 (List.mem_of_getElem? p1)
        replace hx1 := le3 _ _ hx1
        replace hx2 := le3 _ _ hx2
        obtain ⟨t1, e1⟩ := hf1'.clus
        obtain ⟨t2, e2⟩ := hf2'.clus
        wtm_at "zgo"
        refine su_inf hl3.x (k := n - 1) (by omega) q1 (by omega) (by with_unfolding_all rfl) ?_
        wtm_at "zgo"
        refine su_inf hl3.x rfl p1 (by omega) (by with_unfolding_all rfl) ?_
        wtm_at "zgo"
        have c1 := clu_of q2
        have c2 := clu_of p2
        by_cases hq : r1.2.1 = r2.2.1
        · refine ite_t (by rw [hq]; exact beq_self_eq_true _) ?_
          wtm_at "zgo"
          exact ⟨⟨fun _ => ⟨hlt, by rw [c1, c2, hq]⟩, fun _ => rfl⟩, rfl, rfl, rfl⟩
        · refine ite_f (beq_eq_false_iff_ne.mpr hq) ?_
          exact ⟨⟨nofun, fun h => absurd (c1.symm.trans (h.2.trans c2)) hq⟩, rfl, rfl, rfl⟩
      · rename_i hlt
        exact ⟨⟨nofun, fun h => absurd h.1 (by omega)⟩, rfl, rfl, rfl⟩
    intro bb m5 W5 X5 hJ4 Gq hGq
    obtain ⟨hbb, rfl, rfl, rfl⟩ := hJ4
    refine hGq _ _ _ _ ?_
    clear hGq Gq
    cases bb with
    | true =>
      obtain ⟨hlt, hq⟩ := hbb.mp rfl
      refine ite_t rfl ?_
      wtm_at "zgo"
      rename_i tn
      refine ⟨n - 1, by omega, n - 1, tn, rfl, by omega, fun k h1 h2 => ?_, le3, rfl, by wtm_at "zvr", ?_, by wtm_at "zvr"⟩
      · rcases Nat.lt_or_ge n k with h3 | h3
        · exact hf2 k h3 h2
        · obtain rfl : k = n := by omega
          exact hq
      · rw [show ((n - 1 : Nat) : Int) = (n : Int) - 1 by omega]; exact upd_same
    | false =>
      have hstop2 : 0 < n → clu rs (n - 1) ≠ clu rs n := fun q1 q2 => by have := hbb.mpr ⟨q1, q2⟩; cases this
      refine ite_f rfl ?_
      wtm_at "zgo"
      refine nw_tupW (by rw [sizeLine_eq]; simp) fun a W6 ha le6 => ?_
      wtm_at "zgo"
      exact ⟨⟨n, h, ⟨a, _, _, rfl, ha⟩, hf1, hh1, by omega, hh2, hstop, hf2, hstop2⟩, rfl⟩
end
section -- F12
noncomputable def setC (c : Int) (r : Rw) : Rw := (r.1, c, r.2.2)
noncomputable def mergedR (rs : List Rw) (lo hi : Int) : List Rw := rs.map fun r => if lo ≤ r.2.1 ∧ r.2.1 ≤ hi then setC lo r else r
theorem Cl.postP {prog : Program} {w : World} {A : Around} {W : Wd} {X : Led} {f : Value} {args : List Value} {Q : Value → Wd → Led → Prop} (h : Cl prog w A W X f args fun v W' X' => ∃ X'', X'.Perm X'' ∧ Q v W' X'') : Cl prog w A W X f args Q :=
  .mk fun s S => codeAny_mono (h.run s S) fun r s' ⟨v, W', X', e, D, X'', hp, q⟩ => ⟨v, W', X'', e, D.drop (fun p hq => hp.mem_iff.mpr hq) ((List.Perm.map (f := Prod.fst) hp).nodup_iff.mp D.st.nd), q⟩
theorem led_set {is : List Inf} {k : Nat} {j : Inf} (h : is[k]? = some j) (p : Addr × Obj) (o : Obj) : (p :: led is).Perm ((j.d, j.o) :: (p :: (led (is.take k) ++ led (is.drop (k + 1))))) ∧
    ((j.d, o) :: (p :: (led (is.take k) ++ led (is.drop (k + 1))))).Perm (p :: led (is.set k ⟨j.x, j.d, o⟩)) := by
  have hk : k < is.length := by
    rcases Nat.lt_or_ge k is.length with q | q
    · exact q
    · rw [List.getElem?_eq_none q] at h; cases h
  have e1 : is = is.take k ++ j :: is.drop (k + 1) := by
    have := List.getElem?_eq_getElem hk
    rw [this] at h
    cases h
    simp
  constructor
  · refine List.Perm.trans ?_ (List.Perm.swap _ _ _)
    refine List.Perm.cons _ ?_
    conv => lhs; rw [e1]
    unfold led
    rw [List.map_append, List.map_cons]
    exact List.perm_middle
  · refine List.Perm.trans (List.Perm.swap _ _ _) ?_
    refine List.Perm.cons _ ?_
    rw [List.set_eq_take_append_cons_drop, if_pos hk]
    unfold led
    rw [List.map_append, List.map_cons]
    exact List.perm_middle.symm
theorem refs_set {is : List Inf} {k : Nat} {j : Inf} (h : is[k]? = some j) (o : Obj) : refs (is.set k ⟨j.x, j.d, o⟩) = refs is := by
  unfold refs
  rw [List.map_set]
  apply List.ext_getElem?
  intro i
  rw [List.getElem?_set]
  split
  · rename_i e; subst e
    split
    · simp [h]
    · rename_i q; simp at q; simp [q]
  · rfl
/-- first .. first + i set -/
noncomputable def partC (rs : List Rw) (f i : Nat) (c : Int) : List Rw := rs.mapIdx fun k r => if f ≤ k ∧ k < f + i then setC c r else r
theorem partC_zero (rs : List Rw) (f : Nat) (c : Int) : partC rs f 0 c = rs := by
  unfold partC
  apply List.ext_getElem?
  intro k
  simp only [List.getElem?_mapIdx]
  rw [show (fun (r : Rw) => if f ≤ k ∧ k < f + 0 then setC c r else r) = id from funext fun r => if_neg (by omega)]
  simp
theorem partC_succ {rs : List Rw} {f i : Nat} {c : Int} {r : Rw} (h : rs[f + i]? = some r) : (partC rs f i c).set (f + i) (setC c r) = partC rs f (i + 1) c := by
  unfold partC
  apply List.ext_getElem?
  intro k
  rw [List.getElem?_set]
  simp only [List.getElem?_mapIdx, List.length_mapIdx]
  have hlt : f + i < rs.length := by
    rcases Nat.lt_or_ge (f + i) rs.length with q | q
    · exact q
    · rw [List.getElem?_eq_none q] at h; cases h
  split
  · rename_i e; subst e
    rw [h]
    simp
  · rename_i e
    cases rs[k]? with
    | none => rfl
    | some r' =>
      simp only [Option.map_some]
      congr 1
      by_cases q : f ≤ k ∧ k < f + i
      · rw [if_pos q, if_pos (by omega)]
      · rw [if_neg q, if_neg (by omega)]
theorem partC_get {rs : List Rw} {f i k : Nat} {c : Int} (h : ¬ (f ≤ k ∧ k < f + i)) : (partC rs f i c)[k]? = rs[k]? := by
  unfold partC
  simp only [List.getElem?_mapIdx]
  rw [show (fun (r : Rw) => if f ≤ k ∧ k < f + i then setC c r else r) = id from funext fun r => if_neg h]
  simp
theorem chain_up {rs : List Rw} {e h : Nat} (he : 0 < e) (hc : ∀ k, e ≤ k → k < h → clu rs k = clu rs (k - 1)) : ∀ n, e - 1 + n < h → clu rs (e - 1 + n) = clu rs (e - 1)
  | 0, _ => rfl
  | n + 1, hn => by
    have := hc (e - 1 + (n + 1)) (by omega) hn
    rw [this, show e - 1 + (n + 1) - 1 = e - 1 + n by omega]
    exact chain_up he hc n (by omega)
theorem chain_dn {rs : List Rw} {f b : Nat} (hc : ∀ k, f < k → k ≤ b → clu rs (k - 1) = clu rs k) : ∀ n, f + n ≤ b → clu rs (b - n) = clu rs b
  | 0, _ => rfl
  | n + 1, hn => by
    have := hc (b - n) (by omega) (by omega)
    rw [show b - (n + 1) = b - n - 1 by omega, this]
    exact chain_dn hc n (by omega)
/-- what merge sets is what lies between -/
theorem part_merged {rs : List Rw} {b e f h : Nat} (hm : Mono rs) (hb : b + 2 ≤ e) (he : e ≤ rs.length) (h1 : f ≤ b) (h2 : e ≤ h) (h3 : h ≤ rs.length) (h4 : ∀ k, e ≤ k → k < h → clu rs k = clu rs (k - 1)) (h5 : h < rs.length → clu rs h ≠ clu rs (h - 1))
    (h6 : ∀ k, f < k → k ≤ b → clu rs (k - 1) = clu rs k) (h7 : 0 < f → clu rs (f - 1) ≠ clu rs f) : partC rs f (h - f) (clu rs b) = mergedR rs (clu rs b) (clu rs (e - 1)) := by
  unfold partC mergedR
  apply List.ext_getElem?
  intro k
  simp only [List.getElem?_mapIdx, List.getElem?_map]
  cases q : rs[k]? with
  | none => rfl
  | some r =>
    have hk : k < rs.length := by
      rcases Nat.lt_or_ge k rs.length with q' | q'
      · exact q'
      · rw [List.getElem?_eq_none q'] at q; cases q
    have ec := clu_of q
    simp only [Option.map_some]
    congr 1
    have up := chain_up (rs := rs) (e := e) (h := h) (by omega) h4
    have dn := chain_dn (rs := rs) (f := f) (b := b) h6
    have key : (f ≤ k ∧ k < f + (h - f)) ↔ (clu rs b ≤ r.2.1 ∧ r.2.1 ≤ clu rs (e - 1)) := by
      rw [← ec]
      constructor
      · rintro ⟨a1, a2⟩
        constructor
        · rcases Nat.lt_or_ge k b with a3 | a3
          · have := dn (b - k) (by omega)
            rw [show b - (b - k) = k by omega] at this
            omega
          · exact hm _ _ a3 hk
        · rcases Nat.lt_or_ge k e with a3 | a3
          · exact hm _ _ (by omega) (by omega)
          · have := up (k - (e - 1)) (by omega)
            rw [show e - 1 + (k - (e - 1)) = k by omega] at this
            omega
      · rintro ⟨a1, a2⟩
        constructor
        · rcases Nat.lt_or_ge k f with a3 | a3
          · exfalso
            have q1 := h7 (by omega)
            have q2 := hm (f - 1) f (by omega) (by omega)
            have q3 := hm k (f - 1) (by omega) (by omega)
            have q4 := dn (b - f) (by omega)
            rw [show b - (b - f) = f by omega] at q4
            omega
          · exact a3
        · rcases Nat.lt_or_ge k h with a3 | a3
          · omega
          · exfalso
            have q1 := h5 (by omega)
            have q2 := hm (h - 1) h (by omega) (by omega)
            have q3 := hm h k a3 hk
            have q4 := up (h - 1 - (e - 1)) (by omega)
            rw [show e - 1 + (h - 1 - (e - 1)) = h - 1 by omega] at q4
            omega
    by_cases c : f ≤ k ∧ k < f + (h - f)
    · rw [if_pos c, if_pos (key.mp c)]
    · rw [if_neg c, if_neg fun z => c (key.mpr z)]

theorem merge_spec {w : World} {A : Around} {W : Wd} {bx bd l : Addr} {bo : Obj} {is : List Inf} {rs : List Rw} {b e : Nat} {t u : Tok} (G : GW w (Mine.hd.heap_1 w.params) W) (hr : Room A 3)
    (hb : W bx = some (instObj 98 bd)) (hbo : BufO bo (.ref l)) (hl : LstW W l (refs is)) (hi : All2 (InfW W) is rs) (hm : Mono rs) (hbe : b + 2 ≤ e) (he : e ≤ rs.length) (hz : rs.length ≤ 1000) :
    Cl PG w A W ((bd, bo) :: led is) (.ref 121) [.ref bx, .int b t, .int e u] fun v W' X' => v = .none ∧ ∃ js, X' = (bd, bo) :: led js ∧ refs js = refs is ∧ All2 (InfW W') js (mergedR rs (clu rs b) (clu rs (e - 1))) := by
  refine Cl.postP ?_
  have hbo' := hbo
  obtain ⟨f, hbf, hbr⟩ := hbo'
  have hlen := hi.length
  have hrl : (refs is).length = rs.length := by simp [refs, hlen]
  refine Cl.enter [("buffer", .ref bx), ("begin", .int b t), ("end", .int e u)] G hr (by k_is) (by k_is) (fun s X S => by exact BindsTo.of_eq rfl) (by exact rfl) (by exact rfl) (by exact rfl) (by exact rfl) (by exact rfl) fun A' L g Q0 hr' hQ0 => ?_
  dsimp only [mB, List.foldl]
  have h0 : decide (((e : Int) - (b : Int)) < 2) = false := decide_eq_false (by omega)
  wtm_at "zgo"
  refine ev_comp ["info"] (fun _ => rfl) (by with_unfolding_all rfl) (by decide) rfl (by decide) cl0 cl0 ?_
  wtm_at "zgo"
  intro sl W1 hsl le1
  have G1 := G.up le1
  refine su_slc (hl.up le1).x hsl (IsPart.int _ _) (IsPart.int _ _) (fun i q => by cases q; omega) (fun i q => by cases q; omega) (by rw [hrl, sizeLine_eq]; omega) (by with_unfolding_all rfl) fun r1 W2 h2 le2 => ?_
  have hl2 := lstW_new h2
  simp only [Option.elim, Int.toNat_natCast] at hl2
  have hsl : ((refs is).take e).drop b = refs ((is.take e).drop b) := by simp [refs]
  rw [hsl] at hl2
  have hi2 := (((hi.mono fun _ _ q => q.up (le1.trans le2)).take e).drop b)
  have hlen2 := hi2.length
  have hlen3 : ((rs.take e).drop b).length = e - b := by simp; omega
  refine ⟨_, (refs ((is.take e).drop b)).length, _, itr_list hr'.hd hl2, by rw [sizeLine_eq]; simp [refs]; omega, fun i ys W' X' => Le W2 W' ∧ X' = (bd, bo) :: led is ∧ IntsAre ys (((((rs.take e).drop b).take i).map fun r => r.2.1)), ⟨Le.refl _, rfl, .nil⟩, ?_, ?_⟩
  · intro Cn i ys v mi W3 X3 g3 hii hP hle hag hK1 _ T1 hT1 Gq hGq
    obtain ⟨_, rfl, hJ⟩ := hK1
    obtain ⟨j, hj, rfl⟩ := refs_get hP
    obtain ⟨r, hrr, hR⟩ := hi2.get' _ _ hj
    have hjm : j ∈ is := List.mem_of_mem_take (List.mem_of_mem_drop (List.mem_of_getElem? hj))
    have hmem := mem_led hjm
    have G3 := (G1.up le2).up hle
    obtain ⟨hx, fj, hja, hjf⟩ := hR.up hle
    obtain ⟨t1, a1⟩ := hjf.clus
    refine hGq _ _ ?_
    clear hGq Gq
    wtm_at "zgo"
    refine ts_nil ?_
    refine ite_t rfl ?_
    wtm_at "zgo"
    refine ⟨hag.upd rfl, hle, rfl, ?_⟩
    rw [List.take_add_one, hrr, List.map_append]
    exact ksk_snoc hJ
  · intro a o ys W3 X3 hle ho hyl hM1 ha1 ha2 Gq hGq
    obtain ⟨_, rfl, hJ⟩ := hM1
    refine hGq _ ?_
    clear hGq Gq
    rw [List.take_of_length_le (by rw [hlen3]; simp [refs]; omega)] at hJ
    wtm_at "zgo"
    refine Tr.freeze fun W4 hw4 le4 => ?_
    have G4 := ((G1.up le2).up hle).up le4
    have leA := ((le1.trans le2).trans hle).trans le4
    refine ca_min hr'.hd (LstW.x ⟨o, hw4, ho⟩) hJ (by rw [List.length_map, hlen3]; omega) fun M tM hM1 hM2 => ?_
    have hMb : M = clu rs b := by
      refine und fun Gq hGq => ?_
      obtain ⟨r, hr1, rfl⟩ := List.mem_map.mp hM1
      obtain ⟨k, hk⟩ := List.mem_iff_getElem?.mp hr1
      refine hGq ?_
      clear hGq Gq
      have hkl : k < e - b := by
        rcases Nat.lt_or_ge k (e - b) with q | q
        · exact q
        · rw [List.getElem?_eq_none (by rw [hlen3]; exact q)] at hk; cases hk
      have hk' : rs[b + k]? = some r := by
        rw [List.getElem?_drop, List.getElem?_take_of_lt (by omega)] at hk
        exact hk
      have h1 : clu rs b ≤ r.2.1 := by rw [← clu_of hk']; exact hm _ _ (by omega) (by omega)
      have h2 : r.2.1 ≤ clu rs b := by
        refine hM2 _ (List.mem_map.mpr ⟨rs[b], ?_, (clu_of (by simp)).symm⟩)
        refine List.mem_iff_getElem?.mpr ⟨0, ?_⟩
        rw [List.getElem?_drop, List.getElem?_take_of_lt (by omega)]
        simp
      omega
    subst hMb
    have hb4 := leA _ _ hb
    have hl4 := hl.up leA
    have hi4 := hi.mono fun _ _ q => InfW.up q leA
    wtm_at "zgo"
    refine Tr.call0G (widened_spec G4 (hr'.le (by decide)) hl4 hi4 (fun i hi => .tail _ (mem_led hi)) (by omega) he hz) fun Gq W5 v le5 hGq hK2 => ?_
    obtain ⟨fN, hN, hT, p1, p2, p3, p4, p5, p6, p7⟩ := hK2
    refine hGq _ ?_
    clear hGq Gq
    refine und fun Gq hGq => ?_
    obtain ⟨ta, t5, t6, rfl, hta⟩ := hT
    refine hGq ?_
    clear hGq Gq
    have hta := tupW_new hta
    have hb5 := le5 _ _ hb4
    have G5 := G4.up le5
    have hl5 := hl4.up le5
    have hi5 := hi4.mono fun _ _ q => InfW.up q le5
    wtm_at "zgo"
    refine ex_for (fun _ => rfl) ?_
    wtm_at "zgo"
    intro sl W6 hsl le6
    refine su_slc (hl5.up le6).x hsl (IsPart.int _ _) (IsPart.int _ _) (fun i q => by cases q; omega) (fun i q => by cases q; omega) (by rw [hrl, sizeLine_eq]; omega) (by with_unfolding_all rfl) fun r1 W7 h7 le7 => ?_
    have hl7 := lstW_new h7
    simp only [Option.elim, Int.toNat_natCast] at hl7
    have hsl7 : ((refs is).take hN).drop fN = refs ((is.take hN).drop fN) := by simp [refs]
    rw [hsl7] at hl7
    have G7 := (G5.up le6).up le7
    have leB := le6.trans le7
    have hn7 : (refs ((is.take hN).drop fN)).length = hN - fN := by simp [refs]; omega
    refine ⟨_, hN - fN, _, by rw [← hn7]; exact itr_list hr'.hd hl7, fun i m' W' X' => ∃ js, And4 (X'.Perm ((bd, bo) :: led js)) (refs js = refs is) (All2 (InfW W') js (partC rs fN i (clu rs b))) (m' "least_cluster" = some (.int (clu rs b) tM)), ⟨is, List.Perm.refl _, rfl, by rw [partC_zero]; exact hi5.mono fun _ _ q => InfW.up q leB, by wtm_at "zvr"⟩, ?_, ?_⟩
    · intro i v m' W' X' g' T0 hT0 hii hP hle7 hJ1 Gq hGq
      obtain ⟨js, hpm, hrf, hA, v1⟩ := hJ1
      obtain ⟨j0, hj0, rfl⟩ := refs_get hP
      have hjx : (refs js)[fN + i]? = some (.ref j0.x) := by
        rw [hrf]
        rw [List.getElem?_drop, List.getElem?_take_of_lt (by omega)] at hj0
        simp [refs, hj0]
      obtain ⟨j, hj, hjr⟩ := refs_get hjx
      refine hGq _ _ ?_
      clear hGq Gq
      have hjx2 : j0.x = j.x := by injection hjr
      rw [hjx2]
      obtain ⟨r, hrr, hR⟩ := hA.get' _ _ hj
      rw [partC_get (by omega)] at hrr
      obtain ⟨L1, L2⟩ := led_set hj (bd, bo) j.o
      have G8 := G7.up hle7
      refine Tr.perm (hpm.trans L1) ?_
      wtm_at "zgo"
      refine Tr.call1G (setcluster_spec (i := j) (r := r) G8 (hr'.le (by decide)) hR) fun Gq W8 v X8 le8 hGq hK3 => ?_
      obtain ⟨hv, o8, hX8, hO8⟩ := hK3
      refine hGq _ _ ?_
      clear hGq Gq
      subst hv; subst hX8
      refine ⟨rfl, ?_⟩
      wtm_at "zgo"
      refine ⟨js.set (fN + i) ⟨j.x, j.d, o8⟩, (led_set hj (bd, bo) o8).2, by rw [refs_set hj]; exact hrf, ?_, v1⟩
      rw [← partC_succ (r := r) hrr]
      exact (hA.mono fun _ _ q => InfW.up q le8).set _ ⟨le8 _ _ hR.1, hO8⟩
    · intro m' W' X' hle7 hJ2 Gq hGq
      obtain ⟨js, hpm, hrf, hA, v1⟩ := hJ2
      refine hGq _ ?_
      clear hGq Gq
      wtm_at "zgo"
      refine ⟨_, hpm, rfl, js, rfl, hrf, ?_⟩
      rw [← part_merged hm hbe he p1 p2 p3 p4 p5 p6 p7]
      exact hA
end
section -- F13
section
variable {prog : Program} {w : World} {A : Around} {W : Wd} {X : Led}
theorem itr_rg (hh : A.handled = none) {r : Addr} {a b : Int} {n : Nat} (hr : RngW W r a b) (h1 : -1000000 ≤ a) (h2 : a ≤ 1000000) (h3 : -1000000 ≤ b) (h4 : b ≤ 1000000) (hn : (b - a).toNat = n) : Itr prog w A W X (.ref r) X n fun i v => ∃ t, v = .int (a + i) t :=
  itr_range hh hr (small_one (by omega) (by omega) (by omega) (by omega)) (by rw [rangeSize_nat, hn])
end
noncomputable def mrOne (cs : List Int) (k : Nat) : Bool := decide (k < cs.length) && decide (0 < cs.getD k 0)
noncomputable def mrStep (cs : List Int) (st : Int × List (Int × Int)) (k : Nat) : Int × List (Int × Int) :=
  let b := if mrOne cs k = true ∧ st.1 < 0 then (k : Int) else st.1
  if mrOne cs k = false ∧ 0 ≤ b then (-1, st.2 ++ [(b, (k : Int))]) else (b, st.2)
noncomputable def mrSt (cs : List Int) (i : Nat) : Int × List (Int × Int) := (List.range i).foldl (mrStep cs) (-1, [])
noncomputable def markRuns (cs : List Int) : List (Int × Int) := (mrSt cs (cs.length + 1)).2
theorem mrSt_succ (cs : List Int) (i : Nat) : mrSt cs (i + 1) = mrStep cs (mrSt cs i) i := by unfold mrSt; rw [List.range_succ, List.foldl_append]; rfl
theorem mrStep_len (cs : List Int) (st : Int × List (Int × Int)) (k : Nat) : (mrStep cs st k).2.length ≤ st.2.length + 1 := by
  unfold mrStep
  generalize (if mrOne cs k = true ∧ st.1 < 0 then (k : Int) else st.1) = b
  by_cases h : mrOne cs k = false ∧ 0 ≤ b
  · simp [h]
  · dsimp only; rw [if_neg h]; exact Nat.le_succ _
theorem mrSt_len (cs : List Int) : ∀ (n : Nat), (mrSt cs n).2.length ≤ n
  | 0 => Nat.le_refl _
  | n + 1 => by
    rw [mrSt_succ]
    exact Nat.le_trans (mrStep_len ..) (Nat.succ_le_succ (mrSt_len cs n))
theorem markruns_spec {w : World} {A : Around} {W : Wd} {X : Led} {v0 : Value} {cs : List Int} (G : GW w (Mine.hd.heap_1 w.params) W) (hr : Room A 1) (hv : RowV W v0 cs) (hz : cs.length ≤ 1000) :
    Cl PG w A W X (.ref 210) [v0] fun v W' X' => (∃ l vs, v = .ref l ∧ LstW W' l vs ∧ All2 (Tup2 W') vs (markRuns cs)) ∧ X' = X := by
  refine Cl.freeze (P := fun v W' X' => Ex3 fun fl fo vs => And4 (v = .ref fl) (X' = (fl, fo) :: X) (PlO fo vs) (All2 (Tup2 W') vs (markRuns cs))) ?_ fun v W' X' ⟨fl, fo, vs, e, h1, h2, h3⟩ => ⟨fl, fo, X, h1, fun W'' hw le => ⟨⟨fl, vs, e, ⟨fo, hw, h2.lst⟩, h3.mono fun _ _ q => q.up le⟩, rfl⟩⟩
  refine und fun Gq hGq => ?_
  obtain ⟨l, cv, rfl, hl, hi⟩ := hv
  refine hGq ?_
  clear hGq Gq
  have hlen := hi.length
  refine Cl.enter [("classes", .ref l)] G hr (by k_is) (by k_is) (fun s X S => by exact BindsTo.of_eq rfl) (by exact rfl) (by exact rfl) (by exact rfl) (by exact rfl) (by exact rfl) fun A' L g Q0 hr' hQ0 => ?_
  dsimp only [mB, List.foldl]
  wtm_at "zgo"
  refine nw_lst (by rw [sizeLine_eq]; simp) fun fl hf1 hf2 => ?_
  wtm_at "zgo"
  refine ex_for (fun _ => rfl) ?_
  wtm_at "zgo"
  refine ca_len hl.x (by rw [sizeLine_eq]; omega) fun _ => ?_
  wtm_at "zgo"
  refine ca_range1 fun r W1 hr1 le1 => ?_
  refine ⟨_, cs.length + 1, _, itr_rg hr'.hd hr1 (by omega) (by omega) (by omega) (by omega) (by omega), fun i m' W' X' => Ex3 fun fo vs tb => And6 (X' = (fl, fo) :: X) (PlO fo vs) (All2 (Tup2 W') vs (mrSt cs i).2) (m' "classes" = some (.ref l)) (m' "runs" = some (.ref fl)) (m' "begin" = some (.int (mrSt cs i).1 tb)), ⟨_, [], _, rfl, plO _, .nil, by wtm_at "zvr", by wtm_at "zvr", by wtm_at "zvr"⟩, ?_, ?_⟩
  · intro i v m' W' X' g' T0 hT0 hii hJ1 hle hJ2 Gq hGq
    obtain ⟨ti, rfl⟩ := hJ1
    obtain ⟨fo, vs, tb, rfl, hp, hA, v1, v2, v3⟩ := hJ2
    refine hGq _ _ ?_
    clear hGq Gq
    have G' := (G.up le1).up hle
    have hl' := (hl.up le1).up hle
    have hml := mrSt_len cs i
    have hvl := hA.length
    have e0 : (0 : Int) + (i : Int) = (i : Int) := by omega
    rw [e0]
    repeat' (wtm_at "zex")
    refine Tr.cut (fun v m2 W2 X2 => And4 (v = .bool (mrOne cs i)) (m2 = upd m' "at" (.int i ti)) (W2 = W') (X2 = (fl, fo) :: X)) ?_ ?_
    · wtm_at "zgo"
      refine ca_len hl'.x (by rw [sizeLine_eq]; omega) fun _ => ?_
      wtm_at "zgo"
      unfold mrOne
      wtm_at "zite"
      · rename_i h
        have hlt : i < cs.length := by omega
        obtain ⟨tx, hx⟩ := hi.get i (cs.getD i 0) (by rw [List.getD_eq_getElem?_getD, List.getElem?_eq_getElem hlt]; rfl)
        wtm_at "zgo"
        refine su_lst hl'.x (by omega) (by omega +splitDisjunctions) (by simpa using hx) (by with_unfolding_all rfl) ?_
        wtm_at "zgo"
        exact ⟨by simp [hlt], rfl, rfl, rfl⟩
      · rename_i h
        exact ⟨by rw [decide_eq_false h, decide_eq_false (show ¬ i < cs.length by omega)]; rfl, rfl, rfl, rfl⟩
    intro v m2 W2 X2 hJ3 Gq hGq
    obtain ⟨rfl, rfl, rfl, rfl⟩ := hJ3
    refine hGq _ _ _ _ ?_
    clear hGq Gq
    have hs := mrSt_succ cs i
    unfold mrStep at hs
    generalize hst : mrSt cs i = st at hs hA v3 hml hvl
    obtain ⟨b, rs⟩ := st
    cases ho : mrOne cs i with
    | true =>
      rw [ho] at hs
      by_cases hb : b < 0
      · have hbd : decide (b < 0) = true := decide_eq_true hb
        simp [hb] at hs
        wtm_at "zgo"
        refine ⟨fo, vs, ti, rfl, hp, by rw [hs]; exact hA, by wtm_at "zvr", by wtm_at "zvr", by rw [hs]; wtm_at "zvr"⟩
      · have hbd : decide (b < 0) = false := decide_eq_false hb
        simp [hb] at hs
        wtm_at "zgo"
        refine ⟨fo, vs, tb, rfl, hp, by rw [hs]; exact hA, by wtm_at "zvr", by wtm_at "zvr", by rw [hs]; wtm_at "zvr"⟩
    | false =>
      rw [ho] at hs
      by_cases hb : 0 ≤ b
      · have hbd : decide (0 ≤ b) = true := decide_eq_true hb
        simp [hb] at hs
        wtm_at "zgo"
        refine gm_app (.inr (.head _)) hp ?_
        wtm_at "zgo"
        refine nw_tupW (by rw [sizeLine_eq]; simp) fun a W3 ha le3 => ?_
        wtm_at "zgo"
        refine ca_app hp (by rw [sizeLine_eq]; omega) fun o' ho' => ?_
        refine ⟨rfl, ?_⟩
        wtm_at "zgo"
        refine ⟨o', _, _, rfl, ho', by rw [hs]; exact (hA.mono fun _ _ q => q.up le3).snoc ⟨a, _, _, rfl, ha⟩, by wtm_at "zvr", by wtm_at "zvr", by rw [hs]; wtm_at "zvr"⟩
      · have hbd : decide (0 ≤ b) = false := decide_eq_false hb
        simp [hb] at hs
        wtm_at "zgo"
        refine ⟨fo, vs, tb, rfl, hp, by rw [hs]; exact hA, by wtm_at "zvr", by wtm_at "zvr", by rw [hs]; wtm_at "zvr"⟩
  · intro m' W' X' hle hJ4 Gq hGq
    obtain ⟨fo, vs, tb, rfl, hp, hA, v1, v2, v3⟩ := hJ4
    refine hGq _ ?_
    clear hGq Gq
    wtm_at "zgo"
    exact ⟨fl, fo, vs, rfl, rfl, hp, hA⟩
end
section -- F14
noncomputable def Nm.whsOf (ps : List (Int × Int × Int)) : List ((Int × Int) × Int) := (ps.filter fun p => decide (p.2.2 ≠ 0)).map fun p => (p.2, p.1)
noncomputable def Nm.whs (N : Nm) : List ((Int × Int) × Int) := Nm.whsOf N.parts
inductive WhoR (x : List Int × Addr × Value) (y : (Int × Int) × Int) : Prop
  | mk (h1 : x.1 = [y.1.1, y.1.2]) (t) (h2 : x.2.2 = .int y.2 t) : WhoR x y
inductive WhoW (w : World) (W : Wd) (d : Addr) (ws : List ((Int × Int) × Int)) : Prop
  | mk (xs) (h1 : TctX PG w W [] d xs) (h2 : All2 WhoR xs ws) : WhoW w W d ws
theorem TctX.up {prog : Program} {w : World} {W W' : Wd} {X : Led} {d : Addr} {xs : List (List Int × Addr × Value)} (h : TctX prog w W X d xs) (le : Le W W') : TctX prog w W' X d xs :=
  let ⟨h1, o, es, ep, ho, h2, h3, h4, h5, h6⟩ := h; ⟨h1, o, es, ep, ho.elim (fun e => .inl (le _ _ e)) .inr, h2, h3, h4, fun x hx => (h5 x hx).up le, h6⟩
theorem TctX.any {prog : Program} {w : World} {W : Wd} {X : Led} {d : Addr} {xs : List (List Int × Addr × Value)} (h : TctX prog w W [] d xs) : TctX prog w W X d xs :=
  let ⟨h1, o, es, ep, ho, h2, h3, h4, h5, h6⟩ := h; ⟨h1, o, es, ep, ho.elim .inl (fun m => nomatch m), h2, h3, h4, h5, h6⟩
theorem TctX.ice {prog : Program} {w : World} {W W' : Wd} {X : Led} {d : Addr} {o : Obj} {xs : List (List Int × Addr × Value)} (h : TctX prog w W ((d, o) :: X) d xs) (hx : d ∉ adr X) (hw : W' d = some o) (le : Le W W') : TctX prog w W' [] d xs := by
  refine und fun Gq hGq => ?_
  obtain ⟨h1, o', es, ep, ho, h2, h3, h4, h5, h6⟩ := h
  refine hGq ?_
  clear hGq Gq
  have : o' = o := by
    rcases ho with e | m
    · rw [le _ _ e] at hw; cases hw; rfl
    · rcases List.mem_cons.mp m with e | m
      · cases e; rfl
      · exact absurd (mem_adr_of m) hx
  subst this
  exact ⟨h1, o', es, ep, .inl hw, h2, h3, h4, fun x hx => (h5 x hx).up le, h6⟩
theorem WhoW.up {w : World} {W W' : Wd} {d : Addr} {ws : List ((Int × Int) × Int)} (h : WhoW w W d ws) (le : Le W W') : WhoW w W' d ws := let ⟨xs, a, b⟩ := h; ⟨xs, a.up le, b⟩
theorem keys_of {W : Wd} {pk : List (Int × Value)} {ps : List (Int × Int × Int)} (h : All2 (PartV W) pk ps) : pk.map (·.1) = ps.map (·.1) := by
  induction h with
  | nil => rfl
  | cons h r ih => rw [List.map_cons, List.map_cons, ih, h.1]
theorem whs_keys {xs : List (List Int × Addr × Value)} {ps : List ((Int × Int) × Int)} (h : All2 WhoR xs ps) : xs.map (·.1) = ps.map fun y => [y.1.1, y.1.2] := by
  induction h with
  | nil => rfl
  | cons h r ih => rw [List.map_cons, List.map_cons, ih, h.1]
theorem whs_snoc (ps : List (Int × Int × Int)) (p : Int × Int × Int) : Nm.whsOf (ps ++ [p]) = Nm.whsOf ps ++ if p.2.2 = 0 then [] else [(p.2, p.1)] := by
  unfold Nm.whsOf
  rw [List.filter_append, List.map_append]
  by_cases h : p.2.2 = 0 <;> simp [h]
theorem whs_mem {ps : List (Int × Int × Int)} {y : (Int × Int) × Int} (h : y ∈ Nm.whsOf ps) : y.1 ∈ ps.map (·.2) := by
  obtain ⟨p, hp, rfl⟩ := List.mem_map.mp h
  exact List.mem_map_of_mem (List.mem_filter.mp hp).1
theorem atKey_none {xs : List (List Int × Addr × Value)} {ks : List Int} (h : ks ∉ xs.map (·.1)) : atKey xs ks = none := by
  unfold atKey
  rw [Option.map_eq_none_iff, List.find?_eq_none]
  intro p hp e
  exact h (List.mem_map.mpr ⟨p, hp, by simpa using e⟩)
theorem wholes_spec {w : World} {A : Around} {W : Wd} {X : Led} {x : Addr} {N : Nm} (G : GW w (Mine.hd.heap_1 w.params) W) (hr : Room A 2) (hc : NormW PG w W x N) (ho : (N.parts.map (·.1)).Pairwise (· < ·)) (hd : (N.parts.map (·.2)).Nodup) (h64 : N.parts.length < 64) :
    Cl PG w A W X (.ref 149) [.ref x] fun v W' X' => (∃ d, v = .ref d ∧ WhoW w W' d N.whs) ∧ X' = X := by
  refine Cl.freeze (P := fun v W' X' => Ex3 fun d o xs => And5 (v = .ref d) (X' = (d, o) :: X) (TctX PG w W' ((d, o) :: X) d xs) (All2 WhoR xs N.whs) (d ∉ adr X)) ?_ fun v W' X' ⟨d, o, xs, e, h1, h2, h3, h4⟩ => ⟨d, o, X, h1, fun W'' hw le => ⟨⟨d, e, xs, h2.ice h4 hw le, h3⟩, rfl⟩⟩
  refine und fun Gq hGq => ?_
  obtain ⟨dx, od, f, p, cc, pk, ck, h1, h2, h3, h4, h5, h6, h7, h8, h9, h10, h11⟩ := hc
  refine hGq ?_
  clear hGq Gq
  refine Cl.enter [("self", .ref x)] G hr (by k_is) (by k_is) (fun s X S => by exact BindsTo.of_eq rfl) (by exact rfl) (by exact rfl) (by exact rfl) (by exact rfl) (by exact rfl) fun A' L g Q0 hr' hQ0 => ?_
  dsimp only [mB, List.foldl]
  have hlen := h9.length
  have hko := keys_of h9
  have hnd : (pk.map (·.1)).Nodup := by rw [hko]; exact ho.imp fun h => Int.ne_of_lt h
  wtm_at "zgo"
  refine ev_dict0 G ⟨_, rfl⟩ fun d hd1 hd2 hd3 => ?_
  wtm_at "zgo"
  refine ex_for (fun _ => rfl) ?_
  wtm_at "zgo"
  refine ca_sortI hr'.hd h8.x (by omega) (by rw [hko]; exact ho) fun r out W1 hr1 hi1 le1 => ?_
  have hl1 := hi1.length
  rw [List.length_map] at hl1
  refine ⟨_, out.length, _, itr_list hr'.hd hr1, fun i m' W' X' => Ex2 fun o xs => And6 (X' = (d, o) :: X) (TctX PG w W' ((d, o) :: X) d xs) (All2 WhoR xs (Nm.whsOf (N.parts.take i))) (xs.length ≤ i) (m' "self" = some (.ref x)) (m' "found" = some (.ref d)),
    ⟨emptyD, [], rfl, TctX.nil hd1, .nil, Nat.le_refl _, by wtm_at "zvr", by wtm_at "zvr"⟩, ?_, ?_⟩
  · intro i v m' W' X' g' T0 hT0 hii hP hle hJ1 Gq hGq
    obtain ⟨o, xs, rfl, hT, hA, hxl, v1, v2⟩ := hJ1
    refine hGq _ _ ?_
    clear hGq Gq
    have G' := (G.up le1).up hle
    have h8' := (h8.up le1).up hle
    replace h1 := hle _ _ (le1 _ _ h1)
    replace h2 := hle _ _ (le1 _ _ h2)
    refine und fun Gq hGq => ?_
    obtain ⟨q, hq⟩ : ∃ q, N.parts[i]? = some q := ⟨N.parts[i]'(by omega), by simp⟩
    obtain ⟨⟨k, y⟩, hpk, hR1, hR2⟩ := h9.get i q hq
    refine hGq ?_
    clear hGq Gq
    simp only at hR1 hR2
    have hva : valueAt pk k = some y := valueAt_of_get hnd hpk
    obtain ⟨tk, hv'⟩ := hi1.get i k (by rw [List.getElem?_map, hpk]; rfl)
    rw [hP] at hv'
    obtain rfl := Option.some.inj hv'
    refine und fun Gq hGq => ?_
    obtain ⟨a, t1, t2, rfl, hta⟩ := (hR2.up le1).up hle
    refine hGq ?_
    clear hGq Gq
    have htw : TupW W' a [.int q.2.1 t1, .int q.2.2 t2] := tupW_new hta
    have htk : N.parts.take (i + 1) = N.parts.take i ++ [q] := by rw [List.take_add_one, hq]; rfl
    wtm_at "zgo"
    by_cases hb : q.2.2 = 0
    · refine ite_f (by rw [hb]; rfl) ?_
      wtm_at "zgo"
      refine ⟨o, xs, rfl, hT, ?_, by omega, by wtm_at "zvr", by wtm_at "zvr"⟩
      rw [htk, whs_snoc, if_pos hb, List.append_nil]; exact hA
    · refine ite_t (by simpa using hb) ?_
      wtm_at "zgo"
      obtain ⟨a', e', hkw⟩ := Tup2.key (prog := PG) (w := w) (p := q.2) ⟨a, t1, t2, rfl, hta⟩
      cases e'
      refine si_tct (by have := hr'.un; omega) hT hkw (by omega) fun o' hT' => ?_
      wtm_at "zgo"
      have hnew : atKey xs [q.2.1, q.2.2] = none := by
        refine atKey_none fun hm => ?_
        rw [whs_keys hA] at hm
        obtain ⟨z, hz, e⟩ := List.mem_map.mp hm
        have hz' := whs_mem hz
        simp only [List.cons.injEq, and_true] at e
        have e2 : z.1 = q.2 := Prod.ext e.1 e.2
        rw [e2] at hz'
        refine und fun Gq hGq => ?_
        obtain ⟨u, hu, e3⟩ := List.mem_map.mp hz'
        obtain ⟨j, hj⟩ := List.mem_iff_getElem?.mp hu
        refine hGq ?_
        clear hGq Gq
        have hji : j < i := by
          have := (List.getElem?_eq_some_iff.mp hj).1
          rw [List.length_take] at this; omega
        rw [List.getElem?_take_of_lt hji] at hj
        exact nodup_no hd hji (x := q.2) (by rw [List.getElem?_map, hj, ← e3]; rfl) (by rw [List.getElem?_map, hq]; rfl)
      rw [storedH_new hnew] at hT'
      refine ⟨o', _, rfl, hT', ?_, by rw [List.length_append, List.length_singleton]; omega, by wtm_at "zvr", by wtm_at "zvr"⟩
      rw [htk, whs_snoc, if_neg hb]
      exact hA.snoc ⟨rfl, tk, by rw [← hR1]⟩
  · intro m' W' X' hle hJ2 Gq hGq
    obtain ⟨o, xs, rfl, hT, hA, hxl, v1, v2⟩ := hJ2
    refine hGq _ ?_
    clear hGq Gq
    wtm_at "zgo"
    refine ⟨d, o, xs, rfl, rfl, hT, ?_, hd3⟩
    rw [List.take_of_length_le (by omega)] at hA
    exact hA

theorem whoW_get {xs : List (List Int × Addr × Value)} {ws : List ((Int × Int) × Int)} (h : All2 WhoR xs ws) (p : Int × Int) (t0 : Tok) : ∃ t, ((atKey xs [p.1, p.2]).map (·.2)).getD (.int 0 t0) = .int (((ws.find? fun y => decide (y.1 = p)).map (·.2)).getD 0) t := by
  induction h with
  | nil => exact ⟨t0, rfl⟩
  | @cons a b as bs h r ih =>
    obtain ⟨h1, t, h2⟩ := h
    by_cases e : b.1 = p
    · refine ⟨t, ?_⟩
      have e2 : a.1 = [p.1, p.2] := by rw [h1, e]
      simp [atKey, e2, e, h2]
    · obtain ⟨t', ih⟩ := ih
      refine ⟨t', ?_⟩
      have e2 : ¬ a.1 = [p.1, p.2] := fun q => e (by
        rw [h1] at q
        simp only [List.cons.injEq, and_true] at q
        exact Prod.ext q.1 q.2)
      have e3 : atKey (a :: as) [p.1, p.2] = atKey as [p.1, p.2] := by simp [atKey, e2]
      have e4 : (b :: bs).find? (fun y => decide (y.1 = p)) = bs.find? fun y => decide (y.1 = p) := by simp [e]
      rw [e3, e4]; exact ih
/-- what a pair joins to -/
noncomputable def whoOf (ws : List ((Int × Int) × Int)) (p : Int × Int) : Int := ((ws.find? fun y => decide (y.1 = p)).map (·.2)).getD 0
theorem wholeof_spec {w : World} {A : Around} {W : Wd} {X : Led} {d : Addr} {ws : List ((Int × Int) × Int)} {a b : Int} {t u : Tok} (G : GW w (Mine.hd.heap_1 w.params) W) (hr : Room A 2) (hw : WhoW w W d ws) (ha : a < 1000) (hpos : ∀ y ∈ ws, 0 < y.2) :
    Cl PG w A W X (.ref 184) [.ref d, .int a t, .int b u] fun v W' X' => (∃ t, v = .int (whoOf ws (a, b)) t) ∧ X' = X := by
  refine Cl.enter [("wholes", .ref d), ("first", .int a t), ("second", .int b u)] G hr (by k_is) (by k_is) (fun s X S => by exact BindsTo.of_eq rfl) (by exact rfl) (by exact rfl) (by exact rfl) (by exact rfl) (by exact rfl) fun A' L g Q0 hr' hQ0 => ?_
  dsimp only [mB, List.foldl]
  obtain ⟨xs, hT, hA⟩ := hw
  wtm_at "zgo"
  refine gm_tget hT.any ?_
  wtm_at "zgo"
  refine nw_tupW (by rw [sizeLine_eq]; simp) fun a1 W1 ha1 le1 => ?_
  wtm_at "zgo"
  rename_i t0
  refine ca_tget (by have := hr'.un; omega) (hT.up le1).any (ks := [a, b]) ⟨_, _, _, ha1, rfl, rfl, .cons (intKind_is PG w _ t) (.cons (intKind_is PG w _ u) .nil)⟩ ?_
  obtain ⟨t3, e3⟩ := whoW_get hA (a, b) t0
  rw [e3]
  wtm_at "zgo"
  by_cases hp : 0 < whoOf ws (a, b)
  · refine ite_t (decide_eq_true hp) ?_
    wtm_at "zgo"
    exact ⟨⟨_, rfl⟩, rfl⟩
  · refine ite_f (decide_eq_false hp) ?_
    wtm_at "zgo"
    refine Tr.call0G (hwhole_spec (G.up le1) hr' ha) fun Gq W2 v le2 hGq hK1 => ?_
    obtain ⟨t4, e4⟩ := hK1
    subst e4
    refine hGq _ ?_
    clear hGq Gq
    wtm_at "zgo"
    refine ⟨⟨t4, ?_⟩, rfl⟩
    have : whoOf ws (a, b) = 0 := by
      unfold whoOf at hp ⊢
      cases q : ws.find? (fun y => decide (y.1 = (a, b))) with
      | none => rfl
      | some y =>
        rw [q] at hp
        exact absurd (hpos y (List.mem_of_find?_eq_some q)) hp
    rw [this]; rfl
end
section -- F15
/-- what two rows join to -/
noncomputable def joinOf (ws : List ((Int × Int) × Int)) (kn : List Int) (r s : Rw) : Int :=
  if 0 < r.2.2.1 ∨ 0 < s.2.2.1 then 0 else if 0 < whoOf ws (r.1, s.1) ∧ whoOf ws (r.1, s.1) ∈ kn then whoOf ws (r.1, s.1) else 0
theorem wholehere_spec {w : World} {A : Around} {W : Wd} {bx bd l d cx : Addr} {bo : Obj} {is : List Inf} {rs : List Rw} {ws : List ((Int × Int) × Int)} {kn : List Int} {k1 k2 : Nat} {t u : Tok} {r s : Rw} (G : GW w (Mine.hd.heap_1 w.params) W) (hr : Room A 3)
    (hb : W bx = some (instObj 98 bd)) (hbo : BufO bo (.ref l)) (hl : LstW W l (refs is)) (hi : All2 (InfW W) is rs) (hk : CharW PG w W cx kn) (hw : WhoW w W d ws) (hpos : ∀ y ∈ ws, 0 < y.2) (hz : rs.length ≤ 1000)
    (h1 : rs[k1]? = some r) (h2 : rs[k2]? = some s) (hc : r.1 < 1000) :
    Cl PG w A W ((bd, bo) :: led is) (.ref 248) [.ref bx, .ref d, .ref cx, .int k1 t, .int k2 u] fun v W' X' => (∃ t, v = .int (joinOf ws kn r s) t) ∧ X' = (bd, bo) :: led is := by
  refine und fun Gq hGq => ?_
  obtain ⟨f, hbf, hbr⟩ := hbo
  have hlen := hi.length
  obtain ⟨j1, p1, hx1, f1, ha1, hf1⟩ := hi.get _ _ h1
  obtain ⟨j2, p2, hx2, f2, ha2, hf2⟩ := hi.get _ _ h2
  have hm1 := mem_led (List.mem_of_getElem? p1)
  have hm2 := mem_led (List.mem_of_getElem? p2)
  obtain ⟨t1, e1⟩ := hf1.glyph
  obtain ⟨t2, e2⟩ := hf2.glyph
  obtain ⟨t3, e3⟩ := hf1.code
  obtain ⟨t4, e4⟩ := hf2.code
  refine hGq ?_
  clear hGq Gq
  refine Cl.enter [("buffer", .ref bx), ("wholes", .ref d), ("charmap", .ref cx), ("start", .int k1 t), ("at", .int k2 u)] G hr (by k_is) (by k_is) (fun s X S => by exact BindsTo.of_eq rfl) (by exact rfl) (by exact rfl) (by exact rfl) (by exact rfl) (by exact rfl) fun A' L g Q0 hr' hQ0 => ?_
  dsimp only [mB, List.foldl]
  wtm_at "zgo"
  refine su_inf hl.x rfl p1 (by omega) (by with_unfolding_all rfl) ?_
  wtm_at "zgo"
  refine su_inf hl.x rfl p2 (by omega) (by with_unfolding_all rfl) ?_
  wtm_at "zgo"
  by_cases g1 : 0 < r.2.2.1
  · refine ite_t (decide_eq_true g1) ?_
    wtm_at "zgo"
    exact ⟨⟨_, by unfold joinOf; rw [if_pos (.inl g1)]; rfl⟩, rfl⟩
  refine ite_f (decide_eq_false g1) ?_
  wtm_at "zgo"
  by_cases g2 : 0 < s.2.2.1
  · refine ite_t (decide_eq_true g2) ?_
    wtm_at "zgo"
    exact ⟨⟨_, by unfold joinOf; rw [if_pos (.inr g2)]; rfl⟩, rfl⟩
  refine ite_f (decide_eq_false g2) ?_
  wtm_at "zgo"
  refine Tr.call0G (wholeof_spec G hr' hw hc hpos) fun Gq W1 v le1 hGq hK1 => ?_
  obtain ⟨t5, e5⟩ := hK1
  subst e5
  refine hGq _ ?_
  clear hGq Gq
  have hk1 := hk.up le1
  refine und fun Gq hGq => ?_
  obtain ⟨dx, od, f', d', kvs, k1', k2', k3, k4, k5, k6, k7⟩ := id hk1
  refine hGq ?_
  clear hGq Gq
  wtm_at "zgo"
  by_cases g3 : 0 < whoOf ws (r.1, s.1)
  · refine ite_t (decide_eq_true g3) ?_
    wtm_at "zgo"
    refine Tr.call0G (glyph_spec (G.up le1) (hr'.le (by decide)) hk1) fun Gq W2 v le2 hGq hK2 => ?_
    obtain ⟨t6, e6⟩ := hK2
    subst e6
    refine hGq _ ?_
    clear hGq Gq
    wtm_at "zgo"
    by_cases g4 : whoOf ws (r.1, s.1) ∈ kn
    · rw [if_pos g4]
      refine ite_t (decide_eq_true g3) ?_
      wtm_at "zgo"
      exact ⟨⟨_, by unfold joinOf; rw [if_neg (by simp [g1, g2]), if_pos ⟨g3, g4⟩]; rfl⟩, rfl⟩
    · rw [if_neg g4]
      refine ite_f (by decide) ?_
      wtm_at "zgo"
      exact ⟨⟨_, by unfold joinOf; rw [if_neg (by simp [g1, g2]), if_neg fun q => g4 q.2]; rfl⟩, rfl⟩
  · refine ite_f (decide_eq_false g3) ?_
    wtm_at "zgo"
    exact ⟨⟨_, by unfold joinOf; rw [if_neg (by simp [g1, g2]), if_neg fun q => g3 q.1]; rfl⟩, rfl⟩
end
section -- F16
/-- the places of a run in order of class -/
noncomputable def Places (cs : List Int) (b e : Nat) (os : List Int) : Prop := os.Perm ((List.range (e - b)).map fun (i : Nat) => (b : Int) + (i : Int)) ∧ os.Pairwise fun x y => cs.getD x.toNat 0 < cs.getD y.toNat 0 ∨ (cs.getD x.toNat 0 = cs.getD y.toNat 0 ∧ x < y)
theorem places_spec {w : World} {A : Around} {W : Wd} {X : Led} {v0 : Value} {cs : List Int} {b e : Nat} {t u : Tok} (G : GW w (Mine.hd.heap_1 w.params) W) (hr : Room A 1) (hv : RowV W v0 cs) (hz : cs.length ≤ 1000) (hbe : b < e) (he : e ≤ cs.length) (h64 : e - b < 64) :
    Cl PG w A W X (.ref 215) [v0, .int b t, .int e u] fun v W' X' => (∃ os, RowV W' v os ∧ Places cs b e os) ∧ X' = X := by
  refine Cl.freeze (P := fun v W' X' => Ex4 fun fl fo vs os => And5 (v = .ref fl) (X' = (fl, fo) :: X) (LstO fo vs) (IntsAre vs os) (Places cs b e os)) ?_ fun v W' X' ⟨fl, fo, vs, os, e, h1, h2, h3, h4⟩ => ⟨fl, fo, X, h1, fun W'' hw le => ⟨⟨os, ⟨fl, vs, e, ⟨fo, hw, h2⟩, h3⟩, h4⟩, rfl⟩⟩
  refine und fun Gq hGq => ?_
  obtain ⟨l, cv, rfl, hl, hi⟩ := hv
  refine hGq ?_
  clear hGq Gq
  refine Cl.enter [("classes", .ref l), ("begin", .int b t), ("end", .int e u)] G hr (by k_is) (by k_is) (fun s X S => by exact BindsTo.of_eq rfl) (by exact rfl) (by exact rfl) (by exact rfl) (by exact rfl) (by exact rfl) fun A' L g Q0 hr' hQ0 => ?_
  dsimp only [mB, List.foldl]
  wtm_at "zgo"
  refine ev_comp ["number", "spot"] (fun _ => rfl) (by with_unfolding_all rfl) (by decide) rfl (by decide) cl0 cl0 ?_
  wtm_at "zgo"
  refine ev_comp ["spot"] (fun _ => rfl) (by with_unfolding_all rfl) (by decide) rfl (by decide) (cl1 rfl) (cl1 ⟨rfl, rfl⟩) ?_
  wtm_at "zgo"
  refine ca_range2 fun r W1 hr1 le1 => ?_
  refine ⟨_, e - b, _, itr_rg hr'.hd hr1 (by omega) (by omega) (by omega) (by omega) (by omega), by rw [sizeLine_eq]; omega, fun j ys W2 X2 => Le W1 W2 ∧ X2 = X ∧ All2 (Tup2 W2) ys ((List.range j).map fun (i : Nat) => (cs.getD (b + i) 0, (b : Int) + (i : Int))), ⟨Le.refl _, rfl, .nil⟩, ?_, ?_⟩
  · intro Cn j ys v mi W2 X2 g2 hj hJ1 hle2 hag hJ2 hyl T1 hT1 Gq hGq
    obtain ⟨tj, rfl⟩ := hJ1
    obtain ⟨_, rfl, hA⟩ := hJ2
    have vc : mi "classes" = some (.ref l) := ag_get hag (by decide) rfl (by wtm_at "zvr")
    have hl2 := (hl.up le1).up hle2
    obtain ⟨tx, hx⟩ := hi.get (b + j) (cs.getD (b + j) 0) (by rw [List.getD_eq_getElem?_getD, List.getElem?_eq_getElem (by omega)]; rfl)
    refine hGq _ _ ?_
    clear hGq Gq
    wtm_at "zgo"
    refine ts_nil ?_
    refine ite_t rfl ?_
    wtm_at "zgo"
    refine su_lst hl2.x (by omega) (by omega) (by rw [show ((b : Int) + (j : Int)).toNat = b + j by omega]; exact hx) (by with_unfolding_all rfl) ?_
    wtm_at "zgo"
    refine nw_tupW (by rw [sizeLine_eq]; simp) fun a W3 ha le3 => ?_
    wtm_at "zgo"
    refine ⟨hag.upd (by decide), hle2.trans le3, rfl, ?_⟩
    rw [List.range_succ, List.map_append]
    exact (hA.mono fun _ _ q => q.up le3).snoc ⟨a, _, _, rfl, ha⟩
  · intro a o ys W2 X2 hle2 ho hyl hM1 ha1 ha2 Gq hGq
    obtain ⟨_, rfl, hA⟩ := hM1
    refine hGq _ ?_
    clear hGq Gq
    wtm_at "zgo"
    refine Tr.freeze fun W3 hw3 le3 => ?_
    have hlen := hA.length
    rw [List.length_map, List.length_range] at hlen
    refine ca_sortT ⟨o, hw3, ho⟩ (hA.mono fun _ _ q => q.up le3) (by omega) (b := (b : Int)) (fun i p hp => ?_) (by omega) (by omega) fun r out qs W4 hl4 hA4 hpm hpw le4 => ?_
    · rw [List.getElem?_map] at hp
      obtain ⟨q, hq, rfl⟩ := Option.map_eq_some_iff.mp hp
      rw [List.getElem?_eq_some_iff] at hq
      obtain ⟨hq1, rfl⟩ := hq
      simp
    have hlo := hA4.length
    have hqs : qs.length = e - b := by rw [hpm.length_eq]; simp
    refine ⟨_, out.length, _, itr_list hr'.hd hl4, by rw [sizeLine_eq]; omega, fun j ys W5 X5 => Le W4 W5 ∧ X5 = X2 ∧ IntsAre ys ((qs.take j).map (·.2)), ⟨Le.refl _, rfl, .nil⟩, ?_, ?_⟩
    · intro Cn j ys v mi W5 X5 g5 hj hP hle5 hag hJ hyl5 T1 hT1 Gq hGq
      obtain ⟨_, rfl, hI⟩ := hJ
      obtain ⟨q, hq, ta, tt, tu, rfl, hta⟩ := hA4.get' _ _ hP
      refine hGq _ _ ?_
      clear hGq Gq
      have htx : TupX W5 X5 ta [.int q.1 tt, .int q.2 tu] := (tupW_new (hle5 _ _ hta)).x
      wtm_at "zgo"
      refine ts_nil ?_
      refine ite_t rfl ?_
      wtm_at "zgo"
      refine ⟨(hag.upd (by decide)).upd (by decide), hle5, rfl, ?_⟩
      rw [List.take_add_one, hq, List.map_append]
      exact ksk_snoc hI
    · intro a5 o5 ys5 W5 X5 hle5 ho5 hyl5 hJ ha5 hx5 Gq hGq
      refine hGq _ ?_
      clear hGq Gq
      obtain ⟨_, rfl, hI⟩ := hJ
      rw [List.take_of_length_le (by omega)] at hI
      wtm_at "zgo"
      refine ⟨a5, o5, _, qs.map (·.2), rfl, rfl, ho5, hI, ?_, ?_⟩
      · have := hpm.map (·.2)
        rwa [List.map_map] at this
      · rw [List.pairwise_map]
        have hfs : ∀ q ∈ qs, q.1 = cs.getD q.2.toNat 0 := fun q hq => by
          obtain ⟨i, hi', rfl⟩ := List.mem_map.mp (hpm.mem_iff.mp hq)
          show cs.getD (b + i) 0 = cs.getD ((b : Int) + (i : Int)).toNat 0
          congr 1
        refine hpw.imp_of_mem fun {x y} hx hy h => ?_
        rw [hfs x hx, hfs y hy] at h
        exact h
end
section -- F17
theorem perm_unique {α : Type} {R : α → α → Prop} (ha : ∀ x y, R x y → R y x → False) : ∀ {l1 l2 : List α}, l1.Perm l2 → l1.Pairwise R → l2.Pairwise R → l1 = l2
  | [], l2, p, _, _ => (List.nil_perm.mp p).symm
  | a :: l1, [], p, _, _ => nomatch (List.perm_nil.mp p)
  | a :: l1, b :: l2, p, h1, h2 => by
    rw [List.pairwise_cons] at h1 h2
    have e : a = b := by
      have m1 : a ∈ b :: l2 := p.mem_iff.mp List.mem_cons_self
      have m2 : b ∈ a :: l1 := p.mem_iff.mpr List.mem_cons_self
      rcases List.mem_cons.mp m1 with e | m1
      · exact e
      rcases List.mem_cons.mp m2 with e | m2
      · exact e.symm
      exact (ha _ _ (h2.1 a m1) (h1.1 b m2)).elim
    subst e
    rw [perm_unique ha p.cons_inv h1.2 h2.2]
noncomputable def idK (n : Nat) : List Int := (List.range n).map fun (i : Nat) => (i : Int)
/-- the places 0.. in order of their keys, stable -/
noncomputable def IsOrd (ks os : List Int) : Prop := os.Perm (idK ks.length) ∧ os.Pairwise fun x y => ks.getD x.toNat 0 < ks.getD y.toNat 0 ∨ (ks.getD x.toNat 0 = ks.getD y.toNat 0 ∧ x < y)
theorem IsOrd.uniq {ks os ps : List Int} (h1 : IsOrd ks os) (h2 : IsOrd ks ps) : os = ps :=
  perm_unique (fun x y a b => by omega) (h1.1.trans h2.1.symm) h1.2 h2.2
open Classical in
noncomputable def ordK (ks : List Int) : List Int := if h : ∃ os, IsOrd ks os then Classical.choose h else []
theorem ordK_of {ks os : List Int} (h : IsOrd ks os) : ordK ks = os := by
  unfold ordK
  rw [dif_pos ⟨os, h⟩]
  exact (Classical.choose_spec (⟨os, h⟩ : ∃ os, IsOrd ks os)).uniq h
theorem slice_len {α : Type} {l : List α} {b e : Nat} (he : e ≤ l.length) : ((l.take e).drop b).length = e - b := by simp; omega
theorem slice_get {α : Type} {l : List α} {b e i : Nat} (hi : i < e - b) : ((l.take e).drop b)[i]? = l[b + i]? := by
  rw [List.getElem?_drop, List.getElem?_take_of_lt (by omega)]
theorem Places.ord {cs : List Int} {b e : Nat} {os : List Int} (hbe : b ≤ e) (he : e ≤ cs.length) (h : Places cs b e os) : os = (ordK ((cs.take e).drop b)).map fun i => (b : Int) + i := by
  have hm : ∀ x ∈ os, ∃ i : Nat, i < e - b ∧ x = (b : Int) + i := fun x hx => by
    obtain ⟨i, hi, rfl⟩ := List.mem_map.mp (h.1.mem_iff.mp hx)
    exact ⟨i, List.mem_range.mp hi, rfl⟩
  have ho : IsOrd ((cs.take e).drop b) (os.map fun x => x - b) := by
    constructor
    · have := h.1.map fun x => x - (b : Int)
      rw [List.map_map] at this
      unfold idK
      rw [slice_len he]
      refine this.trans (List.Perm.of_eq (List.map_congr_left fun i _ => ?_))
      show (b : Int) + i - b = i
      omega
    · rw [List.pairwise_map]
      refine h.2.imp_of_mem fun {x y} hx hy r => ?_
      refine und fun Gq hGq => ?_
      obtain ⟨i, hi, rfl⟩ := hm x hx
      obtain ⟨j, hj, rfl⟩ := hm y hy
      refine hGq ?_
      clear hGq Gq
      have e1 : ∀ i : Nat, i < e - b → ((cs.take e).drop b).getD ((b : Int) + i - b).toNat 0 = cs.getD ((b : Int) + i).toNat 0 := fun i hi => by
        rw [List.getD_eq_getElem?_getD, List.getD_eq_getElem?_getD, show ((b : Int) + i - b).toNat = i by omega, show ((b : Int) + (i : Int)).toNat = b + i by omega, slice_get hi]
      rw [e1 i hi, e1 j hj]
      omega
  rw [ordK_of ho, List.map_map]
  conv => lhs; rw [← List.map_id os]
  exact List.map_congr_left fun x _ => by show x = (b : Int) + (x - b); omega
theorem ord_small {ks os : List Int} (h : IsOrd ks os) (hl : ks.length ≤ 1) : os = idK ks.length := by
  refine perm_unique (R := fun x y => x < y) (fun x y a b => by omega) h.1 ?_ ?_
  · have := h.1.length_eq
    simp only [idK, List.length_map, List.length_range] at this
    match os, this with
    | [], _ => exact .nil
    | [x], _ => exact List.pairwise_singleton _ _
    | x :: y :: r, e => simp at e; omega
  · have : (idK ks.length).length ≤ 1 := by simp [idK]; exact hl
    match idK ks.length, this with
    | [], _ => exact .nil
    | [x], _ => exact List.pairwise_singleton _ _
    | x :: y :: r, e => simp at e
noncomputable def rwZ : Rw := (0, 0, 0, 0)
noncomputable def turnC (cs : List Int) (rs : List Rw) (be : Int × Int) : List Rw :=
  if ordK ((cs.take be.2.toNat).drop be.1.toNat) = idK (be.2.toNat - be.1.toNat) then rs else
    (mergedR rs (clu rs be.1.toNat) (clu rs (be.2.toNat - 1))).take be.1.toNat ++ ((ordK ((cs.take be.2.toNat).drop be.1.toNat)).map fun i => (mergedR rs (clu rs be.1.toNat) (clu rs (be.2.toNat - 1))).getD (be.1.toNat + i.toNat) rwZ) ++
      (mergedR rs (clu rs be.1.toNat) (clu rs (be.2.toNat - 1))).drop be.2.toNat
noncomputable def orderRows (N : Nm) (rs : List Rw) : List Rw := (markRuns (rs.map N.cl)).foldl (turnC (rs.map N.cl)) rs

/-! the runs, scanned -/
noncomputable def scan : List Int → Nat → Option Nat → List (Int × Int)
  | [], _, none => []
  | [], k, some b => [((b : Int), (k : Int))]
  | c :: r, k, none => if 0 < c then scan r (k + 1) (some k) else scan r (k + 1) none
  | c :: r, k, some b => if 0 < c then scan r (k + 1) (some b) else ((b : Int), (k : Int)) :: scan r (k + 1) none
noncomputable def optI : Option Nat → Int
  | none => -1
  | some b => b
theorem mr_scan (cs : List Int) : ∀ (n k : Nat) (o : Option Nat) (rs : List (Int × Int)), k + n = cs.length → ((List.range' k (n + 1)).foldl (mrStep cs) (optI o, rs)).2 = rs ++ scan (cs.drop k) k o
  | 0, k, o, rs, h => by
    have e : cs.drop k = [] := List.drop_eq_nil_of_le (by omega)
    have e1 : mrOne cs k = false := by unfold mrOne; rw [decide_eq_false (by omega)]; rfl
    rw [e]
    show (mrStep cs (optI o, rs) k).2 = _
    unfold mrStep
    cases o with
    | none => simp [e1, optI, scan]
    | some b => simp [e1, optI, scan]
  | n + 1, k, o, rs, h => by
    have hk : k < cs.length := by omega
    have e : cs.drop k = cs[k] :: cs.drop (k + 1) := List.drop_eq_getElem_cons hk
    have e1 : mrOne cs k = decide (0 < cs[k]) := by unfold mrOne; rw [decide_eq_true hk, List.getD_eq_getElem?_getD, List.getElem?_eq_getElem hk]; rfl
    rw [e, List.range'_succ, List.foldl_cons]
    have ih := fun o rs => mr_scan cs n (k + 1) o rs (by omega)
    by_cases hc : 0 < cs[k]
    · have e2 : mrStep cs (optI o, rs) k = (optI (some (o.getD k)), rs) := by
        unfold mrStep
        cases o with
        | none => simp [e1, hc, optI]
        | some b =>
          simp [e1, hc, optI]
          intro h; omega
      rw [e2, ih]
      cases o <;> simp [scan, hc]
    · cases o with
      | none =>
        have e2 : mrStep cs (optI none, rs) k = (optI none, rs) := by unfold mrStep; simp [e1, hc, optI]
        rw [e2, ih]
        simp [scan, hc]
      | some b =>
        have e2 : mrStep cs (optI (some b), rs) k = (optI none, rs ++ [((b : Int), (k : Int))]) := by unfold mrStep; simp [e1, hc, optI]
        rw [e2, ih]
        simp [scan, hc]
theorem markRuns_scan (cs : List Int) : markRuns cs = scan cs 0 none := by
  unfold markRuns mrSt
  rw [List.range_eq_range']
  have := mr_scan cs cs.length 0 none [] (by omega)
  simpa [optI] using this
theorem scan_ok : ∀ (l : List Int) (k : Nat) (o : Option Nat), (∀ b, o = some b → b < k) → ∀ p ∈ scan l k o, ∃ b e : Nat, p = ((b : Int), (e : Int)) ∧ b < e ∧ e ≤ k + l.length
  | [], k, none, _, p, hp => nomatch hp
  | [], k, some b, ho, p, hp => by
    rw [scan, List.mem_singleton] at hp
    exact ⟨b, k, hp, ho b rfl, by simp⟩
  | c :: r, k, none, ho, p, hp => by
    rw [scan] at hp
    split at hp
    · obtain ⟨b, e, h1, h2, h3⟩ := scan_ok r (k + 1) (some k) (fun b e => by cases e; omega) p hp
      exact ⟨b, e, h1, h2, by simp only [List.length_cons]; omega⟩
    · obtain ⟨b, e, h1, h2, h3⟩ := scan_ok r (k + 1) none nofun p hp
      exact ⟨b, e, h1, h2, by simp only [List.length_cons]; omega⟩
  | c :: r, k, some b0, ho, p, hp => by
    rw [scan] at hp
    split at hp
    · obtain ⟨b, e, h1, h2, h3⟩ := scan_ok r (k + 1) (some b0) (fun b e => by cases e; have := ho _ rfl; omega) p hp
      exact ⟨b, e, h1, h2, by simp only [List.length_cons]; omega⟩
    · rcases List.mem_cons.mp hp with hp | hp
      · exact ⟨b0, k, hp, ho _ rfl, by simp⟩
      · obtain ⟨b, e, h1, h2, h3⟩ := scan_ok r (k + 1) none nofun p hp
        exact ⟨b, e, h1, h2, by simp only [List.length_cons]; omega⟩

/-! a turn keeps the row in order of cluster -/
theorem merged_len {rs : List Rw} {a b : Int} : (mergedR rs a b).length = rs.length := by simp [mergedR]
theorem clu_merged {rs : List Rw} {a b : Int} {k : Nat} (hk : k < rs.length) : clu (mergedR rs a b) k = if a ≤ clu rs k ∧ clu rs k ≤ b then a else clu rs k := by
  unfold clu mergedR
  rw [List.getElem?_map, List.getElem?_eq_getElem hk]
  simp only [Option.map_some, Option.getD_some]
  split <;> rfl
theorem mono_merged {rs : List Rw} (hm : Mono rs) {a b : Int} : Mono (mergedR rs a b) := fun i j hij hj => by
  rw [merged_len] at hj
  rw [clu_merged (by omega), clu_merged hj]
  have := hm i j hij hj
  split <;> split <;> omega
theorem mono_of_clu {rs ts : List Rw} (hm : Mono rs) (hl : ts.length = rs.length) (hc : ∀ k, k < rs.length → clu ts k = clu rs k) : Mono ts := fun i j hij hj => by
  rw [hc i (by omega), hc j (by omega)]
  exact hm i j hij (by omega)
theorem ord_mem {ks os : List Int} (h : IsOrd ks os) {i : Int} (hi : i ∈ os) : ∃ n : Nat, i = n ∧ n < ks.length := by
  obtain ⟨n, hn, rfl⟩ := List.mem_map.mp (h.1.mem_iff.mp hi)
  exact ⟨n, rfl, List.mem_range.mp hn⟩
theorem turn_ok {cs : List Int} {rs : List Rw} {b e : Nat} (hm : Mono rs) (hbe : b < e) (he : e ≤ rs.length) (hl : cs.length = rs.length) (hex : ∃ os, IsOrd ((cs.take e).drop b) os) :
    (turnC cs rs (b, e)).length = rs.length ∧ Mono (turnC cs rs (b, e)) := by
  obtain ⟨os, ho⟩ := hex
  unfold turnC
  simp only [Int.toNat_natCast]
  rw [ordK_of ho]
  split
  · exact ⟨rfl, hm⟩
  have hol : os.length = e - b := by
    rw [ho.1.length_eq]; simp only [idK, List.length_map, List.length_range]; rw [slice_len (by omega)]
  have hml : (mergedR rs (clu rs b) (clu rs (e - 1))).length = rs.length := merged_len
  have hlen : ((mergedR rs (clu rs b) (clu rs (e - 1))).take b ++ (os.map fun i => (mergedR rs (clu rs b) (clu rs (e - 1))).getD (b + i.toNat) rwZ) ++ (mergedR rs (clu rs b) (clu rs (e - 1))).drop e).length = rs.length := by
    simp only [List.length_append, List.length_take, List.length_map, List.length_drop, hml, hol]; omega
  refine ⟨hlen, mono_of_clu (rs := mergedR rs (clu rs b) (clu rs (e - 1))) (mono_merged hm) (by rw [hlen, hml]) fun k hk => ?_⟩
  rw [hml] at hk
  have mid : ∀ j, b ≤ j → j < e → clu (mergedR rs (clu rs b) (clu rs (e - 1))) j = clu rs b := fun j h1 h2 => by
    rw [clu_merged (by omega), if_pos ⟨hm _ _ h1 (by omega), hm _ _ (by omega) (by omega)⟩]
  have get : ∀ {l : List Rw} {j : Nat}, clu l j = ((l[j]?).map (·.2.1)).getD 0 := fun {l j} => rfl
  clear hlen
  generalize mergedR rs (clu rs b) (clu rs (e - 1)) = ms at hml mid ⊢
  rw [List.append_assoc]
  rcases Nat.lt_or_ge k b with h1 | h1
  · rw [get, List.getElem?_append_left (by rw [List.length_take, hml]; omega), List.getElem?_take_of_lt h1]; rfl
  · rw [get, List.getElem?_append_right (by rw [List.length_take, hml]; omega), List.length_take, hml, Nat.min_eq_left (by omega)]
    rcases Nat.lt_or_ge k e with h2 | h2
    · rw [List.getElem?_append_left (by rw [List.length_map, hol]; omega), List.getElem?_map, mid k h1 h2]
      rw [List.getElem?_eq_getElem (by omega)]
      simp only [Option.map_some, Option.getD_some]
      obtain ⟨n, hn, hn2⟩ := ord_mem ho (List.getElem_mem (by omega : k - b < os.length))
      rw [slice_len (by omega)] at hn2
      rw [hn, Int.toNat_natCast]
      have := mid (b + n) (by omega) (by omega)
      unfold clu at this
      rw [List.getElem?_eq_getElem (by omega)] at this
      rw [List.getD_eq_getElem?_getD, List.getElem?_eq_getElem (by omega)]
      exact this
    · rw [List.getElem?_append_right (by rw [List.length_map, hol]; omega), List.length_map, hol, List.getElem?_drop, show e + (k - b - (e - b)) = k by omega]; rfl
end
section -- F18
theorem ord_idx {cs : List Int} {b e : Nat} {os : List Int} (hbe : b ≤ e) (he : e ≤ cs.length) (h : Places cs b e os) : IsOrd ((cs.take e).drop b) (ordK ((cs.take e).drop b)) ∧ os = (ordK ((cs.take e).drop b)).map fun i => (b : Int) + i := by
  have h1 := h.ord hbe he
  refine ⟨?_, h1⟩
  have : ∃ ps, IsOrd ((cs.take e).drop b) ps := by
    refine ⟨os.map fun x => x - b, ?_⟩
    have hm : ∀ x ∈ os, ∃ i : Nat, i < e - b ∧ x = (b : Int) + i := fun x hx => by
      obtain ⟨i, hi, rfl⟩ := List.mem_map.mp (h.1.mem_iff.mp hx)
      exact ⟨i, List.mem_range.mp hi, rfl⟩
    constructor
    · have := h.1.map fun x => x - (b : Int)
      rw [List.map_map] at this
      unfold idK
      rw [slice_len he]
      refine this.trans (List.Perm.of_eq (List.map_congr_left fun i _ => ?_))
      show (b : Int) + i - b = i
      omega
    · rw [List.pairwise_map]
      refine h.2.imp_of_mem fun {x y} hx hy r => ?_
      refine und fun Gq hGq => ?_
      obtain ⟨i, hi, rfl⟩ := hm x hx
      obtain ⟨j, hj, rfl⟩ := hm y hy
      refine hGq ?_
      clear hGq Gq
      have e1 : ∀ i : Nat, i < e - b → ((cs.take e).drop b).getD ((b : Int) + i - b).toNat 0 = cs.getD ((b : Int) + i).toNat 0 := fun i hi => by
        rw [List.getD_eq_getElem?_getD, List.getD_eq_getElem?_getD, show ((b : Int) + i - b).toNat = i by omega, show ((b : Int) + (i : Int)).toNat = b + i by omega, slice_get hi]
      rw [e1 i hi, e1 j hj]
      omega
  obtain ⟨ps, hp⟩ := this
  rw [ordK_of hp]; exact hp
noncomputable def infZ : Inf := ⟨0, 0, instObj 0 0⟩
/-- a slice, put in another order -/
theorem slice_perm {α : Type} (z : α) {l : List α} {b e : Nat} {ks os : List Int} (hbe : b ≤ e) (he : e ≤ l.length) (hk : ks.length = e - b) (ho : IsOrd ks os) : (os.map fun i => l.getD (b + i.toNat) z).Perm ((l.take e).drop b) := by
  refine (ho.1.map _).trans (List.Perm.of_eq ?_)
  unfold idK
  rw [List.map_map, hk]
  apply List.ext_getElem?
  intro i
  rw [List.getElem?_map]
  rcases Nat.lt_or_ge i (e - b) with h | h
  · rw [List.getElem?_range h, slice_get h, List.getElem?_eq_getElem (by omega)]
    show some (l.getD (b + ((i : Int)).toNat) z) = _
    rw [Int.toNat_natCast, List.getD_eq_getElem?_getD, List.getElem?_eq_getElem (by omega)]; rfl
  · rw [List.getElem?_eq_none (by simpa using h), List.getElem?_eq_none (by rw [slice_len he]; exact h)]; rfl
theorem three {α : Type} {l : List α} {b e : Nat} (hbe : b ≤ e) : l.take b ++ (l.take e).drop b ++ l.drop e = l := by
  have : l.take b = (l.take e).take b := by rw [List.take_take, Nat.min_eq_left hbe]
  rw [this, List.take_append_drop, List.take_append_drop]
theorem orderrow_spec {w : World} {A : Around} {W : Wd} {bx bd l nx : Addr} {bo : Obj} {N : Nm} {is : List Inf} {rs : List Rw} (G : GW w (Mine.hd.heap_1 w.params) W) (hr : Room A 4)
    (hb : W bx = some (instObj 98 bd)) (hbo : BufO bo (.ref l)) (hl : LstW W l (refs is)) (hi : All2 (InfW W) is rs) (hn : NormW PG w W nx N) (hm : Mono rs) (hz : rs.length < 64) :
    Cl PG w A W ((bd, bo) :: led is) (.ref 241) [.ref bx, .ref nx] fun v W' X' => v = .none ∧ ∃ bo' l' js, X' = (bd, bo') :: led js ∧ BufO bo' (.ref l') ∧ LstW W' l' (refs js) ∧ All2 (InfW W') js (orderRows N rs) := by
  refine Cl.postP ?_
  obtain ⟨f, hbf, hbr⟩ := id hbo
  have hlen := hi.length
  have hrl : (refs is).length = rs.length := by simp [refs, hlen]
  refine Cl.enter [("buffer", .ref bx), ("normal", .ref nx)] G hr (by k_is) (by k_is) (fun s X S => by exact BindsTo.of_eq rfl) (by exact rfl) (by exact rfl) (by exact rfl) (by exact rfl) (by exact rfl) fun A' L g Q0 hr' hQ0 => ?_
  dsimp only [mB, List.foldl]
  wtm_at "zgo"
  refine ex_asgC ["info"] (by with_unfolding_all rfl) (fun _ => rfl) (by with_unfolding_all rfl) (by decide) rfl (by decide) (cl1 rfl) (cl1 ⟨rfl, rfl⟩) ?_
  wtm_at "zgo"
  refine ⟨_, (refs is).length, _, itr_list hr'.hd hl, by rw [hrl, sizeLine_eq]; omega, fun j ys W2 X2 => Le W W2 ∧ X2 = (bd, bo) :: led is ∧ IntsAre ys ((rs.take j).map N.cl), ⟨Le.refl _, rfl, .nil⟩, ?_, ?_⟩
  · intro Cn j ys v mi W2 X2 g2 hj hP hle2 hag hK1 hyl T1 hT1 Gq hGq
    obtain ⟨_, rfl, hI⟩ := hK1
    refine hGq _ _ ?_
    clear hGq Gq
    have vn : mi "normal" = some (.ref nx) := ag_get hag (by decide) rfl (by wtm_at "zvr")
    refine und fun Gq hGq => ?_
    obtain ⟨q, hq, rfl⟩ := refs_get hP
    obtain ⟨r, hrr, hR⟩ := hi.get' _ _ hq
    refine hGq ?_
    clear hGq Gq
    wtm_at "zgo"
    refine ts_nil ?_
    refine ite_t rfl ?_
    wtm_at "zgo"
    refine Tr.call0G (classhere_spec (G.up hle2) (hr'.le (by decide)) (hn.up hle2) (hR.up hle2) (.tail _ (mem_led (List.mem_of_getElem? hq)))) fun Gq W3 v le3 hGq hK2 => ?_
    obtain ⟨t3, e3⟩ := hK2
    subst e3
    refine hGq _ ?_
    clear hGq Gq
    wtm_at "zgo"
    refine ⟨hag.upd (by decide), hle2.trans le3, rfl, ?_⟩
    rw [List.take_add_one, hrr, List.map_append]
    exact ksk_snoc hI
  · intro a o ys W2 X2 hle2 ho hyl hM1 ha1 ha2 Gq hGq
    obtain ⟨_, rfl, hI⟩ := hM1
    refine hGq _ ?_
    clear hGq Gq
    intro g'
    rw [List.take_of_length_le (by omega)] at hI
    refine Tr.freeze fun W3 hw3 le3 => ?_
    wtm_at "zgo"
    refine ex_for (fun _ => rfl) ?_
    wtm_at "zgo"
    generalize hcs : rs.map N.cl = cs at hI
    have hcl : cs.length = rs.length := by rw [← hcs, List.length_map]
    have hord : orderRows N rs = (markRuns cs).foldl (turnC cs) rs := by unfold orderRows; rw [hcs]
    rw [hord] at hQ0
    have le03 := hle2.trans le3
    refine Tr.call0G (markruns_spec (G.up le03) (hr'.le (by decide)) ⟨a, ys, rfl, ⟨o, hw3, ho⟩, hI⟩ (by omega)) fun Gq W4 v le4 hGq hK3 => ?_
    obtain ⟨rl, rv', e4, hrl4, hA4⟩ := hK3
    subst e4
    refine hGq _ ?_
    clear hGq Gq
    have hlr := hA4.length
    have hcls4 : RowV W4 (.ref a) cs := ⟨a, ys, rfl, ⟨o, le4 _ _ hw3, ho⟩, hI⟩
    refine ⟨_, rv'.length, _, itr_list hr'.hd hrl4, fun i m' W' X' => Ex3 fun bo l js => And9 (X'.Perm ((bd, bo) :: led js)) (BufO bo (.ref l)) (LstW W' l (refs js)) (All2 (InfW W') js (((markRuns cs).take i).foldl (turnC cs) rs)) (Mono (((markRuns cs).take i).foldl (turnC cs) rs)) ((((markRuns cs).take i).foldl (turnC cs) rs).length = rs.length) (m' "buffer" = some (.ref bx)) (m' "normal" = some (.ref nx)) (m' "classes" = some (.ref a)), ⟨bo, l, is, List.Perm.refl _, hbo, hl.up (le03.trans le4), hi.mono fun _ _ q => q.up (le03.trans le4), hm, rfl, by wtm_at "zvr", by wtm_at "zvr", by wtm_at "zvr"⟩, ?_, ?_⟩
    · intro i v m' W' X' g5 T0 hT0 hii hP hle hJ1 Gq hGq
      obtain ⟨bo1, l1, js, hpm, hbo1, hl1, hA1, hm1, hz1, v1, v2, v3⟩ := hJ1
      refine hGq _ _ ?_
      clear hGq Gq
      refine Tr.perm hpm ?_
      refine und fun Gq hGq => ?_
      obtain ⟨q, hq, hT⟩ := hA4.get' _ _ hP
      obtain ⟨b, e, rfl, hbe, hee⟩ := scan_ok cs 0 none nofun q (by rw [← markRuns_scan]; exact List.mem_of_getElem? hq)
      obtain ⟨ta, tt, tu, rfl, hta⟩ := hT.up hle
      refine hGq ?_
      clear hGq Gq
      have htw : TupW W' ta [.int b tt, .int e tu] := tupW_new hta
      have htk : ((markRuns cs).take (i + 1)).foldl (turnC cs) rs = turnC cs (((markRuns cs).take i).foldl (turnC cs) rs) (b, e) := by
        rw [List.take_add_one, hq, List.foldl_append]; rfl
      generalize ((markRuns cs).take i).foldl (turnC cs) rs = ts at hA1 hm1 hz1 htk
      have hjl := hA1.length
      have le0' := (le03.trans le4).trans hle
      have G' := G.up le0'
      wtm_at "zgo"
      refine Tr.call0G (places_spec G' (hr'.le (by decide)) (hcls4.up hle) (by omega) hbe (by omega) (by omega)) fun Gq W5 v le5 hGq hK4 => ?_
      obtain ⟨os, hos, hpl⟩ := hK4
      refine hGq _ ?_
      clear hGq Gq
      refine und fun Gq hGq => ?_
      obtain ⟨hord1, hos1⟩ := ord_idx (by omega) (by omega) hpl
      obtain ⟨ol, ov, rfl, hol, hoi⟩ := hos
      refine hGq ?_
      clear hGq Gq
      have hti := turn_ok (b := b) (e := e) hm1 hbe (by omega) (by omega : cs.length = ts.length) ⟨_, hord1⟩
      have hks : ((cs.take e).drop b).length = e - b := slice_len (by omega)
      wtm_at "zgo"
      refine ca_range2 fun r6 W6 hr6 le6 => ?_
      wtm_at "zgo"
      refine ca_lrange (n := e - b) hr'.hd hr6 (small_one (by omega) (by omega) (by omega) (by omega)) (by rw [rangeSize_nat]; congr 1; omega) (by omega) fun l7 W7 vs7 hl7 hi7 le7 => ?_
      refine co_nei (((hol.up le6).up le7).x) hoi hl7.x hi7 hr'.eq ?_
      have hdec : (os = (List.range (e - b)).map fun (i : Nat) => (b : Int) + (i : Int)) ↔ ordK ((cs.take e).drop b) = idK (e - b) := by
        rw [hos1]
        constructor
        · intro h
          have := congrArg (List.map fun x : Int => x - (b : Int)) h
          rw [List.map_map, List.map_map] at this
          have e1 : (List.map ((fun x : Int => x - (b : Int)) ∘ fun i => (b : Int) + i) (ordK ((cs.take e).drop b))) = ordK ((cs.take e).drop b) := by
            conv => rhs; rw [← List.map_id (ordK ((cs.take e).drop b))]
            exact List.map_congr_left fun x _ => by show (b : Int) + x - b = x; omega
          have e2 : (List.map ((fun x : Int => x - (b : Int)) ∘ fun (i : Nat) => (b : Int) + (i : Int)) (List.range (e - b))) = idK (e - b) :=
            List.map_congr_left fun x _ => by show (b : Int) + (x : Int) - b = x; omega
          rw [e1, e2] at this
          exact this
        · intro h
          rw [h, idK, List.map_map]; rfl
      wtm_at "zgo"
      by_cases hsame : ordK ((cs.take e).drop b) = idK (e - b)
      · refine ite_f (decide_eq_false fun h => h (hdec.mpr hsame)) ?_
        wtm_at "zgo"
        have htt : turnC cs ts (b, e) = ts := by unfold turnC; simp only [Int.toNat_natCast]; rw [if_pos hsame]
        rw [htt] at htk
        exact ⟨bo1, l1, js, List.Perm.refl _, hbo1, hl1.up (le5.trans (le6.trans le7)), by rw [htk]; exact hA1.mono fun _ _ q => q.up (le5.trans (le6.trans le7)), by rw [htk]; exact hm1, by rw [htk]; exact hz1, by wtm_at "zvr", by wtm_at "zvr", by wtm_at "zvr"⟩
      · refine ite_t (decide_eq_true fun h => hsame (hdec.mp h)) ?_
        wtm_at "zgo"
        have le07 := le0'.trans (le5.trans (le6.trans le7))
        have lej := le5.trans (le6.trans le7)
        have h2 : b + 2 ≤ e := by
          rcases Nat.lt_or_ge e (b + 2) with h | h
          · exact absurd (by have := ord_small hord1 (by omega); rw [hks] at this; exact this) hsame
          · exact h
        refine Tr.callAG (merge_spec (G.up le07) (hr'.le (by decide)) (le07 _ _ hb) hbo1 (hl1.up lej) (hA1.mono fun _ _ q => q.up lej) hm1 h2 (by omega) (by omega)) fun Gq W8 v X8 le8 hGq hK5 => ?_
        obtain ⟨e8, ks, e9, hks8, hA8⟩ := hK5
        subst e8; subst e9
        refine hGq _ _ ?_
        clear hGq Gq
        refine ⟨rfl, ?_⟩
        have lej8 := lej.trans le8
        have le08 := le07.trans le8
        have G8 := G.up le08
        have hb8 := le08 _ _ hb
        obtain ⟨f8, hbf8, hbr8⟩ := id hbo1
        have hl8 : LstW W8 l1 (refs ks) := by rw [hks8]; exact hl1.up lej8
        have hkl := hA8.length
        rw [merged_len] at hkl
        have hrk : (refs ks).length = ts.length := by simp [refs, hkl]
        have hol8 := ((hol.up le6).up le7).up le8
        wtm_at "zgo"
        intro sl W9 hsl le9
        refine su_slc (hl8.up le9).x hsl IsPart.none (IsPart.int _ _) (fun i q => by cases q) (fun i q => by cases q; omega) (by rw [hrk, sizeLine_eq]; omega) (by with_unfolding_all rfl) fun r10 W10 h10 le10 => ?_
        have hl10 := lstW_new h10
        simp only [Option.elim, Int.toNat_natCast, List.drop_zero] at hl10
        have hsl10 : (refs ks).take b = refs (ks.take b) := by simp [refs]
        rw [hsl10] at hl10
        have le810 := le9.trans le10
        refine ev_comp ["spot"] (fun _ => rfl) (by with_unfolding_all rfl) (by decide) rfl (by decide) (cl1 rfl) (cl1 ⟨rfl, rfl⟩) ?_
        wtm_at "zgo"
        have hovl : ov.length = e - b := by
          rw [hoi.length, hos1, List.length_map, hord1.1.length_eq, idK, List.length_map, List.length_range, hks]
        refine ⟨_, ov.length, _, itr_list hr'.hd (hol8.up le810), by rw [hovl, sizeLine_eq]; omega, fun j ys W2 X2 => Le W10 W2 ∧ X2 = (bd, bo1) :: led ks ∧ ys = refs (((ordK ((cs.take e).drop b)).take j).map fun i => ks.getD (b + i.toNat) infZ), ⟨Le.refl _, rfl, rfl⟩, ?_, ?_⟩
        · intro Cn j ys' v mi W11 X11 g11 hj hP11 hle11 hag hK6 hyl11 T1 hT1 Gq hGq
          obtain ⟨_, rfl, rfl⟩ := hK6
          refine hGq _ _ ?_
          clear hGq Gq
          have vb : mi "buffer" = some (.ref bx) := ag_get hag (by decide) rfl (by wtm_at "zvr")
          refine und fun Gq hGq => ?_
          obtain ⟨z, hz'⟩ : ∃ z, (ordK ((cs.take e).drop b))[j]? = some z := by
            have hjo : j < (ordK ((cs.take e).drop b)).length := by rw [hord1.1.length_eq, idK, List.length_map, List.length_range, hks]; omega
            exact ⟨_, List.getElem?_eq_getElem hjo⟩
          obtain ⟨n, rfl, hn2⟩ := ord_mem hord1 (List.mem_of_getElem? hz')
          refine hGq ?_
          clear hGq Gq
          rw [hks] at hn2
          obtain ⟨tz, hz3⟩ := hoi.get j ((b : Int) + (n : Int)) (by rw [hos1, List.getElem?_map, hz']; rfl)
          rw [hz3] at hP11
          obtain rfl := Option.some.inj hP11
          have hkn : ks[b + n]? = some (ks.getD (b + n) infZ) := by rw [List.getD_eq_getElem?_getD, List.getElem?_eq_getElem (by omega)]; rfl
          have hb11 := hle11 _ _ (le810 _ _ hb8)
          wtm_at "zgo"
          refine ts_nil ?_
          refine ite_t rfl ?_
          wtm_at "zgo"
          refine su_inf ((hl8.up le810).up hle11).x (k := b + n) (by omega) hkn (by omega) (by with_unfolding_all rfl) ?_
          wtm_at "zgo"
          refine ⟨hag.upd (by decide), hle11, rfl, ?_⟩
          rw [List.take_add_one, hz', List.map_append, refs_append]; rfl
        · intro a12 o12 ys12 W12 X12 hle12 ho12 hyl12 hK7 ha12 hx12 Gq hGq
          obtain ⟨_, rfl, rfl⟩ := hK7
          refine hGq _ ?_
          clear hGq Gq
          rw [List.take_of_length_le (by rw [hord1.1.length_eq, idK, List.length_map, List.length_range, hks, hovl]; omega)] at ho12
          refine Tr.freeze fun W13 hw13 le13 => ?_
          have le1013 := hle12.trans le13
          have hlen12 : (ordK ((cs.take e).drop b)).length = e - b := by rw [hord1.1.length_eq, idK, List.length_map, List.length_range, hks]
          refine bo_addl (hl10.up le1013).x (LstW.x (⟨o12, hw13, ho12⟩ : LstW W13 a12 _)) (by rw [sizeLine_eq]; simp [refs]; omega) fun r14 W14 h14 le14 => ?_
          have le814 := le810.trans (le1013.trans le14)
          have hb14 := le814 _ _ hb8
          wtm_at "zgo"
          intro sl15 W15 hsl15 le15
          refine su_slc (hl8.up (le814.trans le15)).x hsl15 (IsPart.int _ _) IsPart.none (fun i q => by cases q; omega) (fun i q => by cases q) (by rw [hrk, sizeLine_eq]; omega) (by with_unfolding_all rfl) fun r16 W16 h16 le16 => ?_
          have hl16 := lstW_new h16
          simp only [Option.elim, Int.toNat_natCast] at hl16
          have hsl16 : ((refs ks).take (refs ks).length).drop e = refs (ks.drop e) := by rw [List.take_of_length_le (Nat.le_refl _)]; simp [refs]
          rw [hsl16] at hl16
          refine bo_addl (LstW.x (lstW_new (le16 _ _ (le15 _ _ h14)))) hl16.x (by rw [sizeLine_eq]; simp [refs]; omega) fun r17 W17 h17 le17 => ?_
          have hl17 := lstW_new h17
          rw [← refs_append, ← refs_append] at hl17
          have hb17 := le17 _ _ (le16 _ _ (le15 _ _ hb14))
          have le817 := le814.trans (le15.trans (le16.trans le17))
          have G17 := G8.up le817
          wtm_at "zgo"
          rename_i bo18 hbo18
          have htt : turnC cs ts (b, e) = (mergedR ts (clu ts b) (clu ts (e - 1))).take b ++ ((ordK ((cs.take e).drop b)).map fun i => (mergedR ts (clu ts b) (clu ts (e - 1))).getD (b + i.toNat) rwZ) ++ (mergedR ts (clu ts b) (clu ts (e - 1))).drop e := by
            unfold turnC; simp only [Int.toNat_natCast]; rw [if_neg hsame]
          have hA17 := hA8.mono fun _ _ q => q.up le817
          refine ⟨bo18, r17, _, ?_, ⟨_, hbo18, by wtm_at "zvr"⟩, hl17, ?_, by rw [htk]; exact hti.2, by rw [htk, hti.1]; exact hz1, by wtm_at "zvr", by wtm_at "zvr", by wtm_at "zvr"⟩
          · refine List.Perm.cons _ ?_
            unfold led
            refine List.Perm.map _ ?_
            conv => lhs; rw [← three (l := ks) (b := b) (e := e) (by omega)]
            refine List.Perm.append_right _ (List.Perm.append_left _ ?_)
            exact (slice_perm infZ (by omega) (by omega) hks hord1).symm
          · rw [htk, htt]
            refine All2.append (All2.append (hA17.take b) ?_) (hA17.drop e)
            have key : ∀ ls : List Int, (∀ i ∈ ls, ∃ n : Nat, i = n ∧ n < e - b) → All2 (InfW W17) (ls.map fun i => ks.getD (b + i.toNat) infZ) (ls.map fun i => (mergedR ts (clu ts b) (clu ts (e - 1))).getD (b + i.toNat) rwZ) := by
              intro ls
              induction ls with
              | nil => intro _; exact .nil
              | cons i ls ih =>
                intro h
                obtain ⟨n, rfl, hn⟩ := h i List.mem_cons_self
                refine .cons ?_ (ih fun x hx => h x (List.mem_cons_of_mem _ hx))
                simp only [Int.toNat_natCast]
                obtain ⟨r', hr', hR⟩ := hA17.get' (b + n) (ks.getD (b + n) infZ) (by rw [List.getD_eq_getElem?_getD, List.getElem?_eq_getElem (by omega)]; rfl)
                rw [List.getD_eq_getElem?_getD (l := mergedR _ _ _), hr']
                exact hR
            exact key _ fun i hi => by have := ord_mem hord1 hi; rw [hks] at this; exact this
    · intro m' W' X' hle hJ2 Gq hGq
      obtain ⟨bo1, l1, js, hpm, hbo1, hl1, hA1, hm1, hz1, v1, v2, v3⟩ := hJ2
      refine hGq _ ?_
      clear hGq Gq
      rw [List.take_of_length_le (by omega)] at hA1
      wtm_at "zgo"
      exact ⟨_, hpm, rfl, bo1, l1, js, rfl, hbo1, hl1, hA1⟩
end
section -- F19
noncomputable def joinAt (rs : List Rw) (s a : Nat) (x : Int) : List Rw :=
  ((mergedR rs (clu rs s) (clu rs a)).set s (x, ((mergedR rs (clu rs s) (clu rs a)).getD s rwZ).2)).take a ++ ((mergedR rs (clu rs s) (clu rs a)).set s (x, ((mergedR rs (clu rs s) (clu rs a)).getD s rwZ).2)).drop (a + 1)
noncomputable def ptWhole (N : Nm) (ws : List ((Int × Int) × Int)) (kn : List Int) (rs : List Rw) (st : Option Nat) (last : Int) (a : Nat) : Int := match st with
  | none => 0
  | some s => if last ≠ 0 ∧ N.cl (rs.getD a rwZ) ≤ last then 0 else joinOf ws kn (rs.getD s rwZ) (rs.getD a rwZ)
noncomputable def ptLoop (N : Nm) (ws : List ((Int × Int) × Int)) (kn : List Int) : Nat → List Rw → Option Nat → Int → Nat → List Rw
  | 0, rs, _, _, _ => rs
  | n + 1, rs, st, last, a => if 0 < ptWhole N ws kn rs st last a then ptLoop N ws kn n (joinAt rs (st.getD 0) a (ptWhole N ws kn rs st last a)) st last a
    else ptLoop N ws kn n rs (if N.cl (rs.getD a rwZ) = 0 then some a else st) (N.cl (rs.getD a rwZ)) (a + 1)
theorem getD_of {α : Type} {l : List α} {i : Nat} {z x : α} (h : l[i]? = some x) : l.getD i z = x := by rw [List.getD_eq_getElem?_getD, h]; rfl
theorem joinAt_len {rs : List Rw} {s a : Nat} {x : Int} (ha : a < rs.length) : (joinAt rs s a x).length = rs.length - 1 := by
  unfold joinAt
  rw [List.length_append, List.length_take, List.length_drop, List.length_set, merged_len]; omega
theorem clu_set {rs : List Rw} {s k : Nat} {x : Int} (hs : s < rs.length) : clu (rs.set s (x, (rs.getD s rwZ).2)) k = clu rs k := by
  unfold clu
  rw [List.getElem?_set]
  split
  · rename_i e; subst e
    first
      | (rw [if_pos hs, List.getD_eq_getElem?_getD, List.getElem?_eq_getElem hs]; rfl)
      | (rw [List.getD_eq_getElem?_getD, List.getElem?_eq_getElem hs]; rfl)
  · rfl
theorem mono_erase {rs : List Rw} (hm : Mono rs) (a : Nat) : Mono (rs.take a ++ rs.drop (a + 1)) := by
  rcases Nat.lt_or_ge a rs.length with ha | ha
  · have key : ∀ k, clu (rs.take a ++ rs.drop (a + 1)) k = clu rs (if k < a then k else k + 1) := fun k => by
      unfold clu
      by_cases h : k < a
      · rw [if_pos h, List.getElem?_append_left (by rw [List.length_take]; omega), List.getElem?_take_of_lt h]
      · rw [if_neg h, List.getElem?_append_right (by rw [List.length_take]; omega), List.length_take, Nat.min_eq_left (by omega), List.getElem?_drop, show a + 1 + (k - a) = k + 1 by omega]
    intro i j hij hj
    rw [List.length_append, List.length_take, List.length_drop] at hj
    rw [key, key]
    refine hm _ _ ?_ ?_
    · split <;> split <;> omega
    · split <;> omega
  · rw [List.take_of_length_le ha, List.drop_eq_nil_of_le (by omega), List.append_nil]; exact hm
theorem joinAt_mono {rs : List Rw} {s a : Nat} {x : Int} (hm : Mono rs) (hs : s < rs.length) : Mono (joinAt rs s a x) := by
  unfold joinAt
  refine mono_erase ?_ a
  exact mono_of_clu (mono_merged (a := clu rs s) (b := clu rs a) hm) (List.length_set ..) fun k _ => clu_set (by rw [merged_len]; exact hs)
theorem merged_codes {rs : List Rw} {a b : Int} (h : ∀ r ∈ rs, r.1 < 1000) : ∀ r ∈ mergedR rs a b, r.1 < 1000 := fun r hr => by
  obtain ⟨q, hq, rfl⟩ := List.mem_map.mp hr
  split
  · exact h q hq
  · exact h q hq
theorem joinAt_codes {rs : List Rw} {s a : Nat} {x : Int} (h : ∀ r ∈ rs, r.1 < 1000) (hx : x < 1000) : ∀ r ∈ joinAt rs s a x, r.1 < 1000 := fun r hr => by
  have hm : r ∈ (mergedR rs (clu rs s) (clu rs a)).set s (x, ((mergedR rs (clu rs s) (clu rs a)).getD s rwZ).2) := by
    unfold joinAt at hr
    rcases List.mem_append.mp hr with hr | hr
    · exact List.mem_of_mem_take hr
    · exact List.mem_of_mem_drop hr
  rcases List.mem_or_eq_of_mem_set hm with hm | hm
  · exact merged_codes h r hm
  · rw [hm]; exact hx
theorem joinOf_lt {ws : List ((Int × Int) × Int)} {kn : List Int} {r s : Rw} (h : ∀ y ∈ ws, 0 < y.2 ∧ y.2 < 1000) : joinOf ws kn r s < 1000 := by
  have : whoOf ws (r.1, s.1) < 1000 := by
    unfold whoOf
    cases q : ws.find? (fun y => decide (y.1 = (r.1, s.1))) with
    | none => show (0 : Int) < 1000; decide
    | some y => exact (h y (List.mem_of_find?_eq_some q)).2
  unfold joinOf
  split
  · decide
  · split
    · exact this
    · decide
theorem ptWhole_lt {N : Nm} {ws : List ((Int × Int) × Int)} {kn : List Int} {rs : List Rw} {st : Option Nat} {last : Int} {a : Nat} (h : ∀ y ∈ ws, 0 < y.2 ∧ y.2 < 1000) : ptWhole N ws kn rs st last a < 1000 := by
  unfold ptWhole
  cases st with
  | none => show (0 : Int) < 1000; decide
  | some s =>
    show (if _ then _ else _) < (1000 : Int)
    split
    · decide
    · exact joinOf_lt h
theorem led_del {js : List Inf} {a : Nat} {j : Inf} (h : js[a]? = some j) : (led (js.take a ++ js.drop (a + 1))).Sublist (led js) := by
  unfold led
  refine List.Sublist.map _ ?_
  have ha : a < js.length := (List.getElem?_eq_some_iff.mp h).1
  conv => rhs; rw [← List.take_append_drop a js, List.drop_eq_getElem_cons ha]
  exact List.Sublist.append (List.Sublist.refl _) (List.sublist_cons_self _ _)
theorem puttogether_spec {w : World} {A : Around} {W : Wd} {bx bd l nx cx : Addr} {bo : Obj} {N : Nm} {kn : List Int} {is : List Inf} {rs : List Rw} (G : GW w (Mine.hd.heap_1 w.params) W) (hr : Room A 5)
    (hb : W bx = some (instObj 98 bd)) (hbo : BufO bo (.ref l)) (hl : LstW W l (refs is)) (hi : All2 (InfW W) is rs) (hn : NormW PG w W nx N) (hk : CharW PG w W cx kn) (hm : Mono rs) (hz : rs.length < 64) (hcd : ∀ r ∈ rs, r.1 < 1000)
    (ho : (N.parts.map (·.1)).Pairwise (· < ·)) (hd : (N.parts.map (·.2)).Nodup) (h64 : N.parts.length < 64) (hws : ∀ y ∈ N.whs, 0 < y.2 ∧ y.2 < 1000) :
    Cl PG w A W ((bd, bo) :: led is) (.ref 255) [.ref bx, .ref nx, .ref cx] fun v W' X' => v = .none ∧ ∃ bo' l' js, X' = (bd, bo') :: led js ∧ BufO bo' (.ref l') ∧ LstW W' l' (refs js) ∧ All2 (InfW W') js (ptLoop N N.whs kn rs.length rs none 0 0) := by
  refine Cl.postP ?_
  refine Cl.enter [("buffer", .ref bx), ("normal", .ref nx), ("charmap", .ref cx)] G hr (by k_is) (by k_is) (fun s X S => by exact BindsTo.of_eq rfl) (by exact rfl) (by exact rfl) (by exact rfl) (by exact rfl) (by exact rfl) fun A' L g Q0 hr' hQ0 => ?_
  dsimp only [mB, List.foldl]
  have hn0 := hn
  refine und fun Gq hGq => ?_
  obtain ⟨dx, od, f, p, cc, pk, ck, h1, h2, h3, h4, h5, h6, h7, h8, h9, h10, h11⟩ := hn0
  refine hGq ?_
  clear hGq Gq
  wtm_at "zgo"
  refine Tr.call0G (wholes_spec G (hr'.le (by decide)) hn ho hd h64) fun Gq W1 v le1 hGq hK1 => ?_
  obtain ⟨wd, e1, hwd⟩ := hK1
  subst e1
  refine hGq _ ?_
  clear hGq Gq
  wtm_at "zgo"
  rename_i t1 t2 t3
  refine ex_while (J := fun n m' W' X' => Ex10 fun bo l js ts st last a u1 u2 u3 => And19 (n = ts.length - a) (a ≤ ts.length) (ts.length ≤ rs.length) ((∀ s, st = some s → s < a)) (Le W1 W') (X'.Perm ((bd, bo) :: led js)) (BufO bo (.ref l)) (LstW W' l (refs js)) (All2 (InfW W') js ts) (Mono ts) ((∀ r ∈ ts, r.1 < 1000)) (ptLoop N N.whs kn n ts st last a = ptLoop N N.whs kn rs.length rs none 0 0) (m' "buffer" = some (.ref bx)) (m' "normal" = some (.ref nx)) (m' "charmap" = some (.ref cx)) (m' "wholes" = some (.ref wd)) (m' "start" = some (.int (optI st) u1)) (m' "last" = some (.int last u2)) (m' "at" = some (.int (a : Int) u3))) rs.length
    ⟨bo, l, is, rs, none, 0, 0, _, _, _, rfl, Nat.zero_le _, Nat.le_refl _, nofun, Le.refl _, List.Perm.refl _, hbo, hl.up le1, hi.mono fun _ _ q => q.up le1, hm, hcd, rfl, by wtm_at "zvr", by wtm_at "zvr", by wtm_at "zvr", by wtm_at "zvr", by wtm_at "zvr", by wtm_at "zvr", by wtm_at "zvr"⟩ ?_
  intro n m' W' X' g' T0 hT0 hJ1 Gq hGq
  obtain ⟨bo, l, js, ts, st, last, a, u1, u2, u3, hna, hal, hlr, hst, le, hpm, hbo, hl, hi, hm, hcd, hpt, v1, v2, v3, v4, v5, v6, v7⟩ := hJ1
  refine hGq _ ?_
  clear hGq Gq
  refine Tr.perm hpm ?_
  have le0 := le1.trans le
  have G' := G.up le0
  have hb' := le0 _ _ hb
  have hn' := hn.up le0
  obtain ⟨fb, hbf, hbr⟩ := id hbo
  have hlen := hi.length
  have hrl : (refs js).length = ts.length := by simp [refs, hlen]
  wtm_at "zgo"
  refine ca_len hl.x (by rw [hrl, sizeLine_eq]; omega) fun _ => ?_
  wtm_at "zgo"
  wtm_at "zite"
  · rename_i hlt
    have ha : a < ts.length := by rw [hrl] at hlt; omega
    refine und fun Gq hGq => ?_
    obtain ⟨n, rfl⟩ : ∃ k, n = k + 1 := ⟨n - 1, by omega⟩
    obtain ⟨j, r, hj, hr1, hR⟩ := inf_at hi ha
    refine hGq ?_
    clear hGq Gq
    have hjX := mem_led (List.mem_of_getElem? hj)
    have hra := getD_of (z := rwZ) hr1
    wtm_at "zgo"
    refine su_inf hl.x rfl hj (by omega) (by with_unfolding_all rfl) ?_
    wtm_at "zgo"
    refine Tr.call0G (classhere_spec G' (hr'.le (by decide)) hn' hR (.tail _ hjX)) fun Gq W2 v le2 hGq hK2 => ?_
    obtain ⟨t4, e4⟩ := hK2
    subst e4
    refine hGq _ ?_
    clear hGq Gq
    have G2 := G'.up le2
    repeat' (wtm_at "znx")
    wtm_at "zev"
    rename_i t5
    repeat' (wtm_at "znx")
    have hpw := ptWhole_lt (N := N) (kn := kn) (rs := ts) (st := st) (last := last) (a := a) hws
    refine Tr.cut (fun fl m3 W3 X3 => And12 (fl = .next) (Le W' W3) (X3 = (bd, bo) :: led js) ((∃ tw, m3 "whole" = some (.int (ptWhole N N.whs kn ts st last a) tw))) (m3 "here" = some (.int (N.cl r) t4)) (m3 "buffer" = some (.ref bx)) (m3 "normal" = some (.ref nx)) (m3 "charmap" = some (.ref cx)) (m3 "wholes" = some (.ref wd)) (m3 "start" = some (.int (optI st) u1)) (m3 "last" = some (.int last u2)) (m3 "at" = some (.int (a : Int) u3))) ?_ ?_
    · wtm_at "zex"
      cases st with
      | none =>
        have h0 : decide (0 ≤ optI none) = false := rfl
        wtm_at "zgo"
        exact ⟨rfl, le2, rfl, ⟨t5, by wtm_at "zvr"⟩, by wtm_at "zvr", by wtm_at "zvr", by wtm_at "zvr", by wtm_at "zvr", by wtm_at "zvr", by wtm_at "zvr", by wtm_at "zvr", by wtm_at "zvr"⟩
      | some s =>
        have hs := hst s rfl
        have h0 : decide (0 ≤ optI (some s)) = true := decide_eq_true (by simp [optI])
        wtm_at "zgo"
        refine Tr.call0G (blocked_spec G2 (hr'.le (by decide))) fun Gq W3 v le3 hGq e => ?_
        subst e
        refine hGq _ ?_
        clear hGq Gq
        wtm_at "zgo"
        by_cases hbl : last ≠ 0 ∧ N.cl r ≤ last
        · have h0 : (!decide (last ≠ 0 ∧ N.cl r ≤ last)) = false := by rw [decide_eq_true hbl]; rfl
          wtm_at "zgo"
          refine ⟨rfl, le2.trans le3, rfl, ⟨t5, ?_⟩, by wtm_at "zvr", by wtm_at "zvr", by wtm_at "zvr", by wtm_at "zvr", by wtm_at "zvr", by wtm_at "zvr", by wtm_at "zvr", by wtm_at "zvr"⟩
          have : ptWhole N N.whs kn ts (some s) last a = 0 := by unfold ptWhole; rw [hra]; exact if_pos hbl
          rw [this]; wtm_at "zvr"
        · have h0 : (!decide (last ≠ 0 ∧ N.cl r ≤ last)) = true := by rw [decide_eq_false hbl]; rfl
          refine und fun Gq hGq => ?_
          obtain ⟨js', rs', hjs', hrs', hRs'⟩ := inf_at hi (show s < ts.length by omega)
          refine hGq ?_
          clear hGq Gq
          wtm_at "zgo"
          have le23 := le2.trans le3
          refine Tr.call0G (wholehere_spec (G'.up le23) (hr'.le (by decide)) (le23 _ _ hb') hbo (hl.up le23) (hi.mono fun _ _ q => q.up le23) ((hk.up le0).up le23) ((hwd.up le).up le23) (fun y hy => (hws y hy).1) (by omega) hrs' hr1 (hcd _ (List.mem_of_getElem? hrs'))) fun Gq W4 v le4 hGq hK4 => ?_
          obtain ⟨t6, e6⟩ := hK4
          subst e6
          refine hGq _ ?_
          clear hGq Gq
          wtm_at "zgo"
          refine ⟨rfl, le23.trans le4, rfl, ⟨t6, ?_⟩, by wtm_at "zvr", by wtm_at "zvr", by wtm_at "zvr", by wtm_at "zvr", by wtm_at "zvr", by wtm_at "zvr", by wtm_at "zvr", by wtm_at "zvr"⟩
          have : ptWhole N N.whs kn ts (some s) last a = joinOf N.whs kn rs' r := by
            unfold ptWhole; rw [hra]
            show (if last ≠ 0 ∧ N.cl r ≤ last then 0 else joinOf N.whs kn (ts.getD s rwZ) r) = _
            rw [if_neg hbl, getD_of hrs']
          rw [this]; wtm_at "zvr"
    intro fl m3 W3 X3 hJ2 Gq hGq
    obtain ⟨rfl, le3, rfl, ⟨tw, w1⟩, w2, w3, w4, w5, w6, w7, w8, w9⟩ := hJ2
    refine hGq _ _ _ _ ?_
    clear hGq Gq
    generalize hwh : ptWhole N N.whs kn ts st last a = x at w1 hpw
    have G3 := G'.up le3
    wtm_at "zgo"
    by_cases hx : 0 < x
    · refine ite_t (decide_eq_true hx) ?_
      have hpt' : ptLoop N N.whs kn (n + 1) ts st last a = ptLoop N N.whs kn n (joinAt ts (st.getD 0) a x) st last a := by
        rw [ptLoop, hwh, if_pos hx]
      obtain ⟨s, rfl⟩ : ∃ s, st = some s := by
        cases st with
        | none => rw [← hwh] at hx; exact absurd hx (Int.lt_irrefl 0)
        | some s => exact ⟨s, rfl⟩
      have hs := hst s rfl
      wtm_at "zgo"
      have e1 : ((a : Int) + 1) = ((a + 1 : Nat) : Int) := by omega
      rw [e1]
      refine Tr.callAG (merge_spec G3 (hr'.le (by decide)) (le3 _ _ hb') hbo (hl.up le3) (hi.mono fun _ _ q => q.up le3) hm (b := s) (e := a + 1) (by omega) (by omega) (by omega)) fun Gq W4 v X4 le4 hGq hK5 => ?_
      obtain ⟨e4, ks, e5, hks, hA4⟩ := hK5
      subst e4; subst e5
      refine hGq _ _ ?_
      clear hGq Gq
      refine ⟨rfl, ?_⟩
      have le34 := le3.trans le4
      have G4 := G'.up le34
      have hb4 := le34 _ _ hb'
      have hl4 : LstW W4 l (refs ks) := by rw [hks]; exact hl.up le34
      have hkl := hA4.length
      rw [merged_len] at hkl
      have hclu : clu ts (a + 1 - 1) = clu ts a := by rw [Nat.add_sub_cancel]
      rw [hclu] at hA4
      refine und fun Gq hGq => ?_
      obtain ⟨j5, r5, hj5, hr5, hR5⟩ := inf_at hA4 (show s < (mergedR ts (clu ts s) (clu ts a)).length by rw [merged_len]; omega)
      obtain ⟨hx5, f5, ha5, hf5⟩ := id hR5
      obtain ⟨t8, a8⟩ := hf5.code
      refine hGq ?_
      clear hGq Gq
      refine th_next ?_
      refine Tr.perm (led_set hj5 (bd, bo) (instObj 0 0)).1 ?_
      wtm_at "zgo"
      refine su_inf hl4.x (k := s) rfl hj5 (by omega) (by with_unfolding_all rfl) ?_
      wtm_at "zas"
      rename_i o6 ho6
      refine th_next ?_
      refine Tr.perm (led_set hj5 (bd, bo) o6).2 ?_
      have hR6 : InfW W4 ⟨j5.x, j5.d, o6⟩ (x, r5.2) := ⟨hx5, _, ho6, InfO.code hf5⟩
      have hA6 : All2 (InfW W4) (ks.set s ⟨j5.x, j5.d, o6⟩) ((mergedR ts (clu ts s) (clu ts a)).set s (x, r5.2)) := hA4.set s hR6
      have hrf : refs (ks.set s ⟨j5.x, j5.d, o6⟩) = refs ks := refs_set hj5 o6
      have hjt : joinAt ts s a x = ((mergedR ts (clu ts s) (clu ts a)).set s (x, r5.2)).take a ++ ((mergedR ts (clu ts s) (clu ts a)).set s (x, r5.2)).drop (a + 1) := by
        unfold joinAt; rw [getD_of hr5]
      generalize hks' : ks.set s ⟨j5.x, j5.d, o6⟩ = ks' at hA6 hrf ⊢
      have hkl' : ks'.length = ts.length := by rw [← hks', List.length_set, hkl]
      obtain ⟨ja, hja⟩ : ∃ ja, ks'[a]? = some ja := ⟨ks'[a]'(by omega), by simp⟩
      refine Tr.sub (X' := (bd, bo) :: led (ks'.take a ++ ks'.drop (a + 1))) (List.Sublist.cons₂ _ (led_del hja)) ?_
      have hl6 : LstW W4 l (refs ks') := by rw [hrf]; exact hl4
      have hrk : (refs ks').length = ts.length := by simp [refs, hkl']
      wtm_at "zgo"
      intro sl W7 hsl le7
      refine su_slc (hl6.up le7).x hsl IsPart.none (IsPart.int _ _) (fun i q => by cases q) (fun i q => by cases q; omega) (by rw [hrk, sizeLine_eq]; omega) (by with_unfolding_all rfl) fun r8 W8 h8' le8 => ?_
      have hl8 := lstW_new h8'
      simp only [Option.elim, Int.toNat_natCast, List.drop_zero] at hl8
      rw [show (refs ks').take a = refs (ks'.take a) by simp [refs]] at hl8
      have hb8 := le8 _ _ (le7 _ _ hb4)
      wtm_at "zgo"
      intro sl9 W9 hsl9 le9
      refine su_slc (hl6.up (le7.trans (le8.trans le9))).x hsl9 (IsPart.int _ _) IsPart.none (fun i q => by cases q; omega) (fun i q => by cases q) (by rw [hrk, sizeLine_eq]; omega) (by with_unfolding_all rfl) fun r10 W10 h10' le10 => ?_
      have hl10 := lstW_new h10'
      simp only [Option.elim] at hl10
      rw [show ((refs ks').take (refs ks').length).drop ((a : Int) + 1).toNat = refs (ks'.drop (a + 1)) by rw [List.take_of_length_le (Nat.le_refl _), show ((a : Int) + 1).toNat = a + 1 by omega]; simp [refs]] at hl10
      refine bo_addl ((hl8.up (le9.trans le10)).x) hl10.x (by rw [sizeLine_eq]; simp [refs]; omega) fun r11 W11 h11' le11 => ?_
      have hl11 := lstW_new h11'
      rw [← refs_append] at hl11
      have le411 := le7.trans (le8.trans (le9.trans (le10.trans le11)))
      have hb11 := le411 _ _ hb4
      have G11 := G4.up le411
      wtm_at "zgo"
      rename_i bo12 hbo12
      have hA11 := hA6.mono fun _ _ q => q.up le411
      refine ⟨n, by omega, bo12, r11, ks'.take a ++ ks'.drop (a + 1), joinAt ts s a x, some s, last, a, u1, u2, u3, ?_, ?_, ?_, fun z e => by cases e; exact hs, le.trans (le34.trans le411), List.Perm.refl _, ⟨_, hbo12, by wtm_at "zvr"⟩, hl11, ?_, joinAt_mono hm (by omega), joinAt_codes hcd hpw, ?_, w3, w4, w5, w6, w7, w8, w9⟩
      · rw [joinAt_len ha]; omega
      · rw [joinAt_len ha]; omega
      · rw [joinAt_len ha]; omega
      · rw [hjt]
        exact All2.append (hA11.take a) (hA11.drop (a + 1))
      · rw [← hpt, hpt']; rfl
    · refine ite_f (decide_eq_false hx) ?_
      have hpt' : ptLoop N N.whs kn (n + 1) ts st last a = ptLoop N N.whs kn n ts (if N.cl r = 0 then some a else st) (N.cl r) (a + 1) := by
        rw [ptLoop, hwh, if_neg hx, hra]
      wtm_at "zgo"
      have hl3 := hl.up le3
      have hi3 := hi.mono fun _ _ q => q.up (W' := W3) le3
      by_cases h0 : N.cl r = 0
      · refine ite_t (by rw [h0]; rfl) ?_
        wtm_at "zgo"
        rename_i t7
        refine ⟨n, by omega, bo, l, js, ts, some a, N.cl r, a + 1, u3, t4, t7, by omega, by omega, hlr, fun s e => by cases e; omega, le.trans le3, List.Perm.refl _, hbo, hl3, hi3, hm, hcd, ?_, by wtm_at "zvr", by wtm_at "zvr", by wtm_at "zvr", by wtm_at "zvr", by wtm_at "zvr", by wtm_at "zvr", ?_⟩
        · rw [← hpt, hpt', if_pos h0]
        · rw [show ((a + 1 : Nat) : Int) = (a : Int) + 1 by omega]; exact upd_same
      · refine ite_f (beq_eq_false_iff_ne.mpr h0) ?_
        wtm_at "zgo"
        rename_i t7
        refine ⟨n, by omega, bo, l, js, ts, st, N.cl r, a + 1, u1, t4, t7, by omega, by omega, hlr, fun s e => by have := hst s e; omega, le.trans le3, List.Perm.refl _, hbo, hl3, hi3, hm, hcd, ?_, by wtm_at "zvr", by wtm_at "zvr", by wtm_at "zvr", by wtm_at "zvr", by wtm_at "zvr", by wtm_at "zvr", ?_⟩
        · rw [← hpt, hpt', if_neg h0]
        · rw [show ((a + 1 : Nat) : Int) = (a : Int) + 1 by omega]; exact upd_same
  · rename_i hlt
    have ha : a = ts.length := by rw [hrl] at hlt; omega
    obtain rfl : n = 0 := by omega
    wtm_at "zgo"
    refine ⟨_, List.Perm.refl _, rfl, bo, l, js, rfl, hbo, hl, ?_⟩
    rw [← hpt]; exact hi
end
section -- F20
theorem valueAt_ids {kvs : List (Int × Value)} {kn : List Int} (h : All2 (fun (x : Int × Value) k => x.1 = k ∧ ∃ t, x.2 = .int k t) kvs kn) : ∀ k, (k ∈ kn → ∃ t, valueAt kvs k = some (.int k t)) ∧ (¬ k ∈ kn → valueAt kvs k = none) := by
  induction h with
  | nil => exact fun k => ⟨(fun m => nomatch m), fun _ => rfl⟩
  | @cons a b as bs h r ih =>
    intro k
    obtain ⟨h1, t, h2⟩ := h
    by_cases e : b = k
    · subst e
      exact ⟨fun _ => ⟨t, by simp [valueAt, h1, h2]⟩, fun m => absurd List.mem_cons_self m⟩
    · have e2 : valueAt (a :: as) k = valueAt as k := by simp [valueAt, h1, e]
      rw [e2]
      refine ⟨fun m => (ih k).1 ?_, fun m => (ih k).2 fun q => m (List.mem_cons_of_mem _ q)⟩
      rcases List.mem_cons.mp m with q | q
      · exact absurd q.symm e
      · exact q
theorem charinit_spec {w : World} {A : Around} {W : Wd} {x dx d : Addr} {kvs : List (Int × Value)} {kn : List Int} (G : GW w (Mine.hd.heap_1 w.params) W) (hr : Room A 1) (hd : DctW PG w W d kvs) (hA : All2 (fun (x : Int × Value) k => x.1 = k ∧ ∃ t, x.2 = .int k t) kvs kn) (hn : kn.Nodup) (h0 : ¬ (0 : Int) ∈ kn) (hz : kn.length ≤ 1000) :
    Cl PG w A W [(x, instObj 299 dx), (dx, emptyDict)] (.ref 275) [.ref x, .ref d] fun v W' X' => v = .none ∧ ∃ o f d' kvs', W' x = some (instObj 299 dx) ∧ X' = [(dx, o)] ∧ Le W W' ∧ AtO o f 2 ∧ f "codes" = some (.ref d') ∧ f "glyph" = none ∧ DctW PG w W' d' kvs' ∧ All2 (fun (x : Int × Value) k => x.1 = k ∧ ∃ t, x.2 = .int k t) kvs' kn := by
  refine Cl.enter [("self", .ref x), ("codes", .ref d), ("variations", .none)] G hr (by k_is) (by k_is) (fun s X S => by exact BindsTo.of_defaults rfl (S.w _ _ (G.at (show _ = some _ by rfl))) rfl rfl rfl) (by exact rfl) (by exact rfl) (by exact rfl) (by exact rfl) (by exact rfl) fun A' L g Q0 hr' hQ0 => ?_
  dsimp only [mB, List.foldl]
  refine Tr.freeze fun W₁ hx le => ?_
  have ha0 := atO_nil
  have hlen := hA.length
  have hva := valueAt_ids hA
  wtm_at "zgo"
  refine ev_compD ["code"] (fun _ => rfl) (by with_unfolding_all rfl) (by decide) rfl (by decide) (cl1 rfl) (cl1 ⟨rfl, rfl⟩) ?_
  wtm_at "zgo"
  have hd1 := hd.up le
  refine ⟨_, kvs.length, _, itr_dct hr'.hd hd1, by rw [sizeLine_eq]; omega, fun j ys W2 X2 => Le W₁ W2 ∧ X2 = [(dx, emptyDict)] ∧ All2 (fun (x : Int × Value) k => x.1 = k ∧ ∃ t, x.2 = .int k t) ys (kn.take j), ⟨Le.refl _, rfl, .nil⟩, ?_, ?_⟩
  · intro Cn j ys v mi W2 X2 g2 hj hJ1 hle2 hag hJ2 hyl T1 hT1 Gq hGq
    obtain ⟨k, y, hk, tk, rfl⟩ := hJ1
    obtain ⟨_, rfl, hI⟩ := hJ2
    have vc : mi "codes" = some (.ref d) := ag_get hag (by decide) rfl (by wtm_at "zvr")
    obtain ⟨k', hk', hk1, tv, hk2⟩ := hA.get' _ _ hk
    refine hGq _ _ ?_
    clear hGq Gq
    simp only at hk1 hk2
    subst hk1; subst hk2
    have hmem := List.mem_of_getElem? hk'
    obtain ⟨tw, hvk⟩ := (hva k).1 hmem
    have hne : ¬ k = 0 := fun e => h0 (e ▸ hmem)
    have hd2 := hd1.up hle2
    wtm_at "zgo"
    refine ts_one ?_
    wtm_at "zgo"
    refine ite_t (by simpa using hne) ?_
    wtm_at "zgo"
    refine ⟨k, tk, rfl, hag.upd (by decide), hle2, rfl, ?_⟩
    rw [List.take_add_one, hk']
    have hnew : stored ys k (.int k tw) = ys ++ [(k, .int k tw)] := by
      refine stored_absent (valueAt_none_of_not_mem fun hm => ?_) _
      have e : ys.map (·.1) = kn.take j := by
        have : ∀ {ys : List (Int × Value)} {ks : List Int}, All2 (fun (x : Int × Value) k => x.1 = k ∧ ∃ t, x.2 = .int k t) ys ks → ys.map (·.1) = ks := by
          intro ys ks h
          induction h with
          | nil => rfl
          | cons h r ih => rw [List.map_cons, ih, h.1]
        exact this hI
      rw [e] at hm
      obtain ⟨i, hi⟩ := List.mem_iff_getElem?.mp hm
      have hij : i < j := by
        have := (List.getElem?_eq_some_iff.mp hi).1
        rw [List.length_take] at this; omega
      rw [List.getElem?_take_of_lt hij] at hi
      exact nodup_no hn hij hi hk'
    rw [hnew]
    exact hI.snoc ⟨rfl, tw, rfl⟩
  · intro a o ys W2 X2 hle2 ho hyl hM1 ha1 ha2 hab Gq hGq
    obtain ⟨_, rfl, hI⟩ := hM1
    refine hGq _ ?_
    clear hGq Gq
    rw [List.take_of_length_le (by omega)] at hI
    refine Tr.freeze fun W3 hw3 le3 => ?_
    have hsys : (a == sysModules) = false := by
      rw [beq_eq_false_iff_ne]
      intro q
      have e3 := hab _ _ (le _ _ (G.at (show _ = some _ by rfl : (Mine.hd.heap_1 w.params).lookup 2 = some _)))
      rw [q] at e3
      exact absurd e3 (by decide)
    have hda : DctW PG w W3 a ys := ⟨hsys, o, hw3, ho⟩
    have le03 := le.trans (hle2.trans le3)
    have hx3 := hle2.trans le3 _ _ hx
    have G3 := G.up le03
    wtm_at "zgo"
    exact ⟨rfl, _, _, a, ys, hx3, rfl, le03, (by assumption), by wtm_at "zvr", by wtm_at "zvr", hda, hI⟩
theorem charmake_spec {w : World} {A : Around} {W : Wd} {d : Addr} {kvs : List (Int × Value)} {kn : List Int} (G : GW w (Mine.hd.heap_1 w.params) W) (hr : Room A 2) (hd : DctW PG w W d kvs) (hA : All2 (fun (x : Int × Value) k => x.1 = k ∧ ∃ t, x.2 = .int k t) kvs kn) (hn : kn.Nodup) (h0 : ¬ (0 : Int) ∈ kn) (hz : kn.length ≤ 1000) :
    Cl PG w A W [] (.ref 299) [.ref d] fun v W' X' => ∃ x, And3 (v = .ref x) (X' = []) (CharW PG w W' x kn) := by
  refine Cl.freeze (P := fun v W' X' => Ex6 fun x dx o f d' kvs' => And9 (v = .ref x) (W' x = some (instObj 299 dx)) (X' = [(dx, o)]) (Le W W') (AtO o f 2) (f "codes" = some (.ref d')) (f "glyph" = none) (DctW PG w W' d' kvs') (All2 (fun (x : Int × Value) k => x.1 = k ∧ ∃ t, x.2 = .int k t) kvs' kn)) ?_ fun v W' X' ⟨x, dx, o, f, d', kvs', e, h1, h2, h3, h4, h5, h6, h7, h8⟩ => ?_
  · refine at_make G (by k_is) (by k_is) (by k_is) fun x dx h1 h2 h3 h4 h5 => ?_
    exact Cl.mono (charinit_spec G hr.make hd hA hn h0 hz) fun v W' X' ⟨e, o, f, d', kvs', h1, h2, h3, h4, h5, h6, h7, h8⟩ => ⟨e, x, dx, o, f, d', kvs', rfl, h1, h2, h3, h4, h5, h6, h7, h8⟩
  · exact ⟨dx, o, [], h2, fun W'' hd le => ⟨x, e, rfl, dx, o, f, d', kvs', le _ _ h1, hd, h4, h5, h6, h7.up le, valueAt_ids h8⟩⟩

/-! all in one -/
theorem exists_ord (ks : List Int) : ∃ os, IsOrd ks os := by
  let r : Int → Int → Bool := fun x y => decide (ks.getD x.toNat 0 < ks.getD y.toNat 0 ∨ (ks.getD x.toNat 0 = ks.getD y.toNat 0 ∧ x ≤ y))
  have hp := List.mergeSort_perm (idK ks.length) r
  have hs := List.pairwise_mergeSort (le := r) (fun a b c h1 h2 => by
    have h1 := of_decide_eq_true h1
    have h2 := of_decide_eq_true h2
    exact decide_eq_true (by omega)) (fun a b => by
    rw [Bool.or_eq_true]
    rcases Int.lt_trichotomy (ks.getD a.toNat 0) (ks.getD b.toNat 0) with h | h | h
    · exact .inl (decide_eq_true (by omega))
    · rcases Int.le_total a b with h' | h'
      · exact .inl (decide_eq_true (by omega))
      · exact .inr (decide_eq_true (by omega))
    · exact .inr (decide_eq_true (by omega))) (idK ks.length)
  refine ⟨_, hp, ?_⟩
  have hnd : ((idK ks.length).mergeSort r).Nodup := hp.nodup_iff.mpr (by
    unfold idK
    rw [List.nodup_iff_pairwise_ne, List.pairwise_map]
    exact (List.nodup_range (n := ks.length)).imp fun h e => h (by omega))
  have := hs.and hnd
  refine this.imp fun {x y} ⟨h1, h2⟩ => ?_
  have h1 := of_decide_eq_true h1
  have h2 : x ≠ y := h2
  omega
theorem mono_iff {rs : List Rw} : Mono rs ↔ rs.Pairwise fun x y => x.2.1 ≤ y.2.1 := by
  rw [List.pairwise_iff_getElem]
  constructor
  · intro h i j hi hj hij
    have := h i j (by omega) hj
    unfold clu at this
    rw [List.getElem?_eq_getElem hi, List.getElem?_eq_getElem hj] at this
    exact this
  · intro h i j hij hj
    unfold clu
    rw [List.getElem?_eq_getElem (by omega), List.getElem?_eq_getElem hj]
    rcases Nat.lt_or_ge i j with q | q
    · exact h i j (by omega) hj q
    · obtain rfl : i = j := by omega
      exact Int.le_refl _
theorem apart_mono {N : Nm} {kn : List Int} {rs : List Rw} (h : Mono rs) : Mono (N.apartRows kn rs) := by
  rw [mono_iff] at h ⊢
  unfold Nm.apartRows
  rw [List.pairwise_flatMap]
  refine ⟨fun r _ => ?_, h.imp fun {x y} hxy a ha b hb => ?_⟩
  · unfold Nm.apart1
    rw [List.pairwise_map]
    exact List.pairwise_of_forall fun _ _ => Int.le_refl _
  · obtain ⟨_, _, rfl⟩ := List.mem_map.mp ha
    obtain ⟨_, _, rfl⟩ := List.mem_map.mp hb
    exact hxy
theorem apart_codes {N : Nm} (hN : N.Ok) {kn : List Int} {rs : List Rw} (h : ∀ r ∈ rs, r.1 < 1000) : ∀ r ∈ N.apartRows kn rs, r.1 < 1000 := fun r hr => by
  refine und fun Gq hGq => ?_
  obtain ⟨q, hq, hr⟩ := List.mem_flatMap.mp hr
  obtain ⟨c, hc, rfl⟩ := List.mem_map.mp hr
  refine hGq ?_
  clear hGq Gq
  split at hc
  · rw [List.mem_singleton.mp hc]; exact h q hq
  · exact (Nm.had_len hN (h q hq)).2 c hc
theorem turnC_mem {cs : List Int} {rs : List Rw} {be : Int × Int} {r : Rw} (h : r ∈ turnC cs rs be) : r ∈ rs ∨ r ∈ mergedR rs (clu rs be.1.toNat) (clu rs (be.2.toNat - 1)) ∨ r = rwZ := by
  unfold turnC at h
  split at h
  · exact .inl h
  · refine .inr ?_
    rcases List.mem_append.mp h with h | h
    · rcases List.mem_append.mp h with h | h
      · exact .inl (List.mem_of_mem_take h)
      · obtain ⟨i, _, rfl⟩ := List.mem_map.mp h
        rw [List.getD_eq_getElem?_getD]
        cases q : (mergedR rs (clu rs be.1.toNat) (clu rs (be.2.toNat - 1)))[be.1.toNat + i.toNat]? with
        | none => exact .inr rfl
        | some r => exact .inl (List.mem_of_getElem? q)
    · exact .inl (List.mem_of_mem_drop h)
theorem fold_ok {cs : List Int} : ∀ {ps : List (Int × Int)} {rs : List Rw}, (∀ p ∈ ps, ∃ b e : Nat, p = ((b : Int), (e : Int)) ∧ b < e ∧ e ≤ rs.length) → cs.length = rs.length → Mono rs → (∀ r ∈ rs, r.1 < 1000) →
    (ps.foldl (turnC cs) rs).length = rs.length ∧ Mono (ps.foldl (turnC cs) rs) ∧ ∀ r ∈ ps.foldl (turnC cs) rs, r.1 < 1000
  | [], rs, _, _, hm, hc => ⟨rfl, hm, hc⟩
  | p :: ps, rs, hp, hl, hm, hc => by
    refine und fun Gq hGq => ?_
    obtain ⟨b, e, rfl, hbe, he⟩ := hp p List.mem_cons_self
    obtain ⟨h1, h2⟩ := turn_ok hm hbe he hl (exists_ord _)
    have h3 : ∀ r ∈ turnC cs rs ((b : Int), (e : Int)), r.1 < 1000 := fun r hr => by
      rcases turnC_mem hr with h | h | h
      · exact hc r h
      · exact merged_codes hc r h
      · rw [h]; decide
    obtain ⟨k1, k2, k3⟩ := fold_ok (cs := cs) (ps := ps) (rs := turnC cs rs (b, e)) (fun p hp' => by rw [h1]; exact hp p (List.mem_cons_of_mem _ hp')) (by rw [h1]; exact hl) h2 h3
    refine hGq ?_
    clear hGq Gq
    rw [List.foldl_cons]
    exact ⟨k1.trans h1, k2, k3⟩
theorem order_ok {N : Nm} {rs : List Rw} (hm : Mono rs) (hc : ∀ r ∈ rs, r.1 < 1000) : (orderRows N rs).length = rs.length ∧ Mono (orderRows N rs) ∧ ∀ r ∈ orderRows N rs, r.1 < 1000 := by
  refine fold_ok (fun p hp => ?_) (by simp) hm hc
  rw [markRuns_scan] at hp
  refine und fun Gq hGq => ?_
  obtain ⟨b, e, h1, h2, h3⟩ := scan_ok (rs.map N.cl) 0 none nofun p hp
  refine hGq ?_
  clear hGq Gq
  exact ⟨b, e, h1, h2, by simpa using h3⟩
noncomputable def Nm.fine (N : Nm) : Prop := N.Ok ∧ (N.parts.map (·.1)).Pairwise (· < ·) ∧ (N.parts.map (·.2)).Nodup ∧ N.parts.length < 64 ∧ ∀ y ∈ N.whs, 0 < y.2 ∧ y.2 < 1000
noncomputable def normRows (N : Nm) (kn : List Int) (rs : List Rw) : List Rw := ptLoop N N.whs kn (orderRows N (N.apartRows kn rs)).length (orderRows N (N.apartRows kn rs)) none 0 0
theorem normalise_spec {w : World} {A : Around} {W : Wd} {bx bd l nx cx : Addr} {bo : Obj} {N : Nm} {kn : List Int} {is : List Inf} {rs : List Rw} (G : GW w (Mine.hd.heap_1 w.params) W) (hr : Room A 7)
    (hb : W bx = some (instObj 98 bd)) (hbo : BufO bo (.ref l)) (hl : LstW W l (refs is)) (hi : All2 (InfW W) is rs) (hn : NormW PG w W nx N) (hN : N.fine) (hk : CharW PG w W cx kn) (hk0 : ¬ (0 : Int) ∈ kn) (hm : Mono rs) (hz : rs.length ≤ 6) (hcd : ∀ r ∈ rs, r.1 < 1000) :
    Cl PG w A W ((bd, bo) :: led is) (.ref 262) [.ref bx, .ref nx, .ref cx] fun v W' X' => v = .none ∧ ∃ bo' l' js, X' = (bd, bo') :: led js ∧ BufO bo' (.ref l') ∧ LstW W' l' (refs js) ∧ All2 (InfW W') js (normRows N kn rs) := by
  refine und fun Gq hGq => ?_
  obtain ⟨n1, n2, n3, n4, n5⟩ := hN
  refine hGq ?_
  clear hGq Gq
  refine Cl.enter [("buffer", .ref bx), ("normal", .ref nx), ("charmap", .ref cx)] G hr (by k_is) (by k_is) (fun s X S => by exact BindsTo.of_eq rfl) (by exact rfl) (by exact rfl) (by exact rfl) (by exact rfl) (by exact rfl) fun A' L g Q0 hr' hQ0 => ?_
  dsimp only [mB, List.foldl]
  wtm_at "zgo"
  refine Tr.callAG (takeapart_spec G hr' hb hbo hl hi hn n1 hk hk0 hcd (by omega)) fun Gq W1 v X1 le1 hGq hK1 => ?_
  obtain ⟨e1, bo1, l1, is1, e2, hbo1, hl1, hi1⟩ := hK1
  subst e1; subst e2
  refine hGq _ _ ?_
  clear hGq Gq
  refine ⟨rfl, ?_⟩
  have a1 := apart_mono (N := N) (kn := kn) hm
  have a2 := apart_codes n1 (kn := kn) hcd
  have a3 := Nm.apartRows_len n1 (kn := kn) hcd
  have b1 := le1 _ _ hb
  have hn1 := hn.up le1
  have G1 := G.up le1
  wtm_at "zgo"
  refine Tr.callAG (orderrow_spec G1 (hr'.le (by decide)) b1 hbo1 hl1 hi1 hn1 a1 (by omega)) fun Gq W2 v X2 le2 hGq hK2 => ?_
  obtain ⟨e3, bo2, l2, is2, e4, hbo2, hl2, hi2⟩ := hK2
  subst e3; subst e4
  refine hGq _ _ ?_
  clear hGq Gq
  refine ⟨rfl, ?_⟩
  obtain ⟨o1, o2, o3⟩ := order_ok (N := N) a1 a2
  have b2 := le2 _ _ b1
  have hn2 := hn1.up le2
  have G2 := G1.up le2
  have hk2 := (hk.up le1).up le2
  wtm_at "zgo"
  refine Tr.callAG (puttogether_spec G2 (hr'.le (by decide)) b2 hbo2 hl2 hi2 hn2 hk2 o2 (by omega) o3 n2 n3 n4 n5) fun Gq W3 v X3 le3 hGq hK3 => ?_
  obtain ⟨e5, bo3, l3, is3, e6, hbo3, hl3, hi3⟩ := hK3
  subst e5; subst e6
  refine hGq _ _ ?_
  clear hGq Gq
  refine ⟨rfl, ?_⟩
  wtm_at "zgo"
  exact ⟨rfl, bo3, l3, is3, rfl, hbo3, hl3, hi3⟩
end
section -- F21
inductive RowsW (W : Wd) (v : Value) (rs : List Rw) : Prop
  | mk (l) (vs) (h1 : v = .ref l) (h2 : LstW W l vs) (h3 : All2 (Tup4 W) vs rs) : RowsW W v rs
theorem RowsW.up {W W' : Wd} {v : Value} {rs : List Rw} (h : RowsW W v rs) (le : Le W W') : RowsW W' v rs := let ⟨l, vs, e, a, b⟩ := h; ⟨l, vs, e, a.up le, b.mono fun _ _ q => q.up le⟩
theorem Tup4.tupW {W : Wd} {v : Value} {r : Rw} (h : Tup4 W v r) : ∃ a t₁ t₂ t₃ t₄, v = .ref a ∧ TupW W a [.int r.1 t₁, .int r.2.1 t₂, .int r.2.2.1 t₃, .int r.2.2.2 t₄] := let ⟨a, t₁, t₂, t₃, t₄, e, h⟩ := h; ⟨a, t₁, t₂, t₃, t₄, e, tupW_new h⟩
/-- least and greatest cluster of some rows -/
structure Span (ss : List Rw) (lo hi : Int) : Prop where
  h1 : lo ∈ ss.map (·.2.1)
  h2 : (∀ a ∈ ss.map (·.2.1), lo ≤ a)
  h3 : hi ∈ ss.map (·.2.1)
  h4 : ∀ a ∈ ss.map (·.2.1), a ≤ hi
theorem lawmerged_spec {w : World} {A : Around} {W : Wd} {X : Led} {v1 v2 : Value} {rs ss : List Rw} (G : GW w (Mine.hd.heap_1 w.params) W) (hr : Room A 1) (h1 : RowsW W v1 rs) (h2 : RowsW W v2 ss) (hne : ss ≠ []) (hz : rs.length ≤ 1000) (hz2 : ss.length ≤ 1000) :
    Cl PG w A W X (.ref 325) [v1, v2] fun v W' X' => (∃ lo hi, Span ss lo hi ∧ RowsW W' v (mergedR rs lo hi)) ∧ X' = X := by
  refine Cl.freeze (P := fun v W' X' => Ex5 fun fl fo vs lo hi => And5 (v = .ref fl) (X' = (fl, fo) :: X) (LstO fo vs) (Span ss lo hi) (All2 (Tup4 W') vs (mergedR rs lo hi))) ?_ fun v W' X' ⟨fl, fo, vs, lo, hi, e, h1, h2, h3, h4⟩ => ⟨fl, fo, X, h1, fun W'' hw le => ⟨⟨lo, hi, h3, fl, vs, e, ⟨fo, hw, h2⟩, h4.mono fun _ _ q => q.up le⟩, rfl⟩⟩
  refine und fun Gq hGq => ?_
  obtain ⟨l1, vs1, rfl, hl1, hA1⟩ := h1
  obtain ⟨l2, vs2, rfl, hl2, hA2⟩ := h2
  refine hGq ?_
  clear hGq Gq
  have hn1 := hA1.length
  have hn2 := hA2.length
  have hpos : 0 < ss.length := by cases ss with | nil => exact absurd rfl hne | cons a b => simp
  refine Cl.enter [("rows", .ref l1), ("some", .ref l2)] G hr (by k_is) (by k_is) (fun s X S => by exact BindsTo.of_eq rfl) (by exact rfl) (by exact rfl) (by exact rfl) (by exact rfl) (by exact rfl) fun A' L g Q0 hr' hQ0 => ?_
  dsimp only [mB, List.foldl]
  wtm_at "zgo"
  refine ev_comp ["row"] (fun _ => rfl) (by with_unfolding_all rfl) (by decide) rfl (by decide) cl0 cl0 ?_
  wtm_at "zgo"
  refine ⟨_, vs2.length, _, itr_list hr'.hd hl2, by rw [sizeLine_eq]; omega, fun j ys W2 X2 => Le W W2 ∧ X2 = X ∧ IntsAre ys ((ss.take j).map (·.2.1)), ⟨Le.refl _, rfl, .nil⟩, ?_, ?_⟩
  · intro Cn j ys v mi W2 X2 g2 hj hP hle2 hag hK1 hyl T1 hT1 Gq hGq
    obtain ⟨_, rfl, hI⟩ := hK1
    obtain ⟨r, hrr, hT⟩ := hA2.get' _ _ hP
    obtain ⟨a, t₁, t₂, t₃, t₄, rfl, hT⟩ := (hT.up hle2).tupW
    refine hGq _ _ ?_
    clear hGq Gq
    wtm_at "zgo"
    refine ts_nil ?_
    refine ite_t rfl ?_
    wtm_at "zgo"
    refine ⟨hag.upd (by decide), hle2, rfl, ?_⟩
    rw [List.take_add_one, hrr, List.map_append]
    exact ksk_snoc hI
  intro a3 o3 ys3 W3 X3 hle3 ho3 hyl3 hK2 ha3 hx3 Gq hGq
  obtain ⟨_, rfl, hI3⟩ := hK2
  refine hGq _ ?_
  clear hGq Gq
  rw [List.take_of_length_le (by omega)] at hI3
  wtm_at "zgo"
  refine Tr.freeze fun W4 hw4 le4 => ?_
  refine ca_min hr'.hd (LstW.x ⟨o3, hw4, ho3⟩) hI3 (by simpa using hpos) fun lo tlo hlo1 hlo2 => ?_
  have le04 := hle3.trans le4
  have G4 := G.up le04
  wtm_at "zgo"
  refine ev_comp ["row"] (fun _ => rfl) (by with_unfolding_all rfl) (by decide) rfl (by decide) cl0 cl0 ?_
  wtm_at "zgo"
  have hl24 := hl2.up le04
  refine ⟨_, vs2.length, _, itr_list hr'.hd hl24, by rw [sizeLine_eq]; omega, fun j ys W2 X2 => Le W4 W2 ∧ X2 = X3 ∧ IntsAre ys ((ss.take j).map (·.2.1)), ⟨Le.refl _, rfl, .nil⟩, ?_, ?_⟩
  · intro Cn j ys v mi W2 X2 g2 hj hP hle2 hag hK3 hyl T1 hT1 Gq hGq
    obtain ⟨_, rfl, hI⟩ := hK3
    obtain ⟨r, hrr, hT⟩ := hA2.get' _ _ hP
    obtain ⟨a, t₁, t₂, t₃, t₄, rfl, hT⟩ := ((hT.up le04).up hle2).tupW
    refine hGq _ _ ?_
    clear hGq Gq
    wtm_at "zgo"
    refine ts_nil ?_
    refine ite_t rfl ?_
    wtm_at "zgo"
    refine ⟨hag.upd (by decide), hle2, rfl, ?_⟩
    rw [List.take_add_one, hrr, List.map_append]
    exact ksk_snoc hI
  intro a5 o5 ys5 W5 X5 hle5 ho5 hyl5 hK4 ha5 hx5 Gq hGq
  obtain ⟨_, rfl, hI5⟩ := hK4
  refine hGq _ ?_
  clear hGq Gq
  rw [List.take_of_length_le (by omega)] at hI5
  wtm_at "zgo"
  refine Tr.freeze fun W6 hw6 le6 => ?_
  refine ca_max hr'.hd (LstW.x ⟨o5, hw6, ho5⟩) hI5 (by simpa using hpos) fun hi thi hhi1 hhi2 => ?_
  wtm_at "zgo"
  refine nw_tupW (by rw [sizeLine_eq]; simp) fun at6 W6b hat6 le6b => ?_
  have htw6 : TupW W6b at6 [.int lo tlo, .int hi thi] := tupW_new hat6
  replace le6 := le6.trans le6b
  clear hw6
  have le06 := le04.trans (hle5.trans le6)
  have G6 := G.up le06
  have hl16 := hl1.up le06
  wtm_at "zgo"
  refine ev_comp ["code", "cluster", "glyph", "mark"] (fun _ => rfl) (by with_unfolding_all rfl) (by decide) rfl (by decide) (cl2 rfl rfl) (cl2 ⟨rfl, rfl⟩ ⟨rfl, rfl⟩) ?_
  wtm_at "zgo"
  refine ⟨_, vs1.length, _, itr_list hr'.hd hl16, by rw [sizeLine_eq]; omega, fun j ys W2 X2 => Le W6b W2 ∧ X2 = X5 ∧ All2 (Tup4 W2) ys (mergedR (rs.take j) lo hi), ⟨Le.refl _, rfl, .nil⟩, ?_, ?_⟩
  · intro Cn j ys v mi W2 X2 g2 hj hP hle2 hag hK5 hyl T1 hT1 Gq hGq
    obtain ⟨_, rfl, hI⟩ := hK5
    refine hGq _ _ ?_
    clear hGq Gq
    have vlo : mi "low" = some (.int lo tlo) := ag_get hag (by decide) rfl (by wtm_at "zvr")
    have vhi : mi "high" = some (.int hi thi) := ag_get hag (by decide) rfl (by wtm_at "zvr")
    refine und fun Gq hGq => ?_
    obtain ⟨r, hrr, hT⟩ := hA1.get' _ _ hP
    obtain ⟨a, t₁, t₂, t₃, t₄, rfl, hT⟩ := ((hT.up le06).up hle2).tupW
    refine hGq ?_
    clear hGq Gq
    have hst : mergedR (rs.take (j + 1)) lo hi = mergedR (rs.take j) lo hi ++ [if lo ≤ r.2.1 ∧ r.2.1 ≤ hi then setC lo r else r] := by
      unfold mergedR; rw [List.take_add_one, hrr, List.map_append]; rfl
    wtm_at "zgo"
    refine ts_nil ?_
    refine ite_t rfl ?_
    wtm_at "zgo"
    by_cases c1 : lo ≤ r.2.1
    · refine ite_t (decide_eq_true c1) ?_
      wtm_at "zgo"
      by_cases c2 : r.2.1 ≤ hi
      · refine ite_t (decide_eq_true c2) ?_
        wtm_at "zgo"
        refine nw_tupW (by rw [sizeLine_eq]; simp) fun b W7 hb le7 => ?_
        wtm_at "zgo"
        refine ⟨(((hag.upd (by decide)).upd (by decide)).upd (by decide)).upd (by decide), hle2.trans le7, rfl, ?_⟩
        rw [hst, if_pos ⟨c1, c2⟩]
        exact (hI.mono fun _ _ q => q.up le7).snoc ⟨b, _, _, _, _, rfl, hb⟩
      · refine ite_f (decide_eq_false c2) ?_
        wtm_at "zgo"
        refine nw_tupW (by rw [sizeLine_eq]; simp) fun b W7 hb le7 => ?_
        wtm_at "zgo"
        refine ⟨(((hag.upd (by decide)).upd (by decide)).upd (by decide)).upd (by decide), hle2.trans le7, rfl, ?_⟩
        rw [hst, if_neg fun q => c2 q.2]
        exact (hI.mono fun _ _ q => q.up le7).snoc ⟨b, _, _, _, _, rfl, hb⟩
    · refine ite_f (decide_eq_false c1) ?_
      wtm_at "zgo"
      refine nw_tupW (by rw [sizeLine_eq]; simp) fun b W7 hb le7 => ?_
      wtm_at "zgo"
      refine ⟨(((hag.upd (by decide)).upd (by decide)).upd (by decide)).upd (by decide), hle2.trans le7, rfl, ?_⟩
      rw [hst, if_neg fun q => c1 q.1]
      exact (hI.mono fun _ _ q => q.up le7).snoc ⟨b, _, _, _, _, rfl, hb⟩
  · intro a7 o7 ys7 W7 X7 hle7 ho7 hyl7 hK6 ha7 hx7 Gq hGq
    obtain ⟨_, rfl, hI7⟩ := hK6
    refine hGq _ ?_
    clear hGq Gq
    rw [List.take_of_length_le (by omega)] at hI7
    wtm_at "zgo"
    exact ⟨a7, o7, ys7, lo, hi, rfl, rfl, ho7, ⟨hlo1, hlo2, hhi1, hhi2⟩, hI7⟩
end
section -- F22
noncomputable def lawApart (N : Nm) (kn : List Int) : Nat → List Int → List Int → List Int
  | 0, best, _ => best
  | n + 1, best, row => match N.split row with
    | none => if (row.all fun x => decide (x ∈ kn)) = true then row else best
    | some r => lawApart N kn n (if (row.all fun x => decide (x ∈ kn)) = true then row else best) r
theorem lawapart_spec {w : World} {A : Around} {W : Wd} {X : Led} {x : Addr} {kv : Value} {N : Nm} {kn : List Int} {c : Int} {t : Tok} (G : GW w (Mine.hd.heap_1 w.params) W) (hr : Room A 2) (hc : NormW PG w W x N) (hN : N.Ok) (hb : c < 1000) (hk : RowV W kv kn) (hkz : kn.length ≤ 1000) :
    Cl PG w A W X (.ref 320) [.ref x, kv, .int c t] fun v W' X' => RowV W' v (lawApart N kn 9 [c] [c]) ∧ X' = X := by
  refine und fun Gq hGq => ?_
  obtain ⟨kl, kvs, rfl, hkl, hki⟩ := hk
  refine hGq ?_
  clear hGq Gq
  refine Cl.enter [("normal", .ref x), ("known", .ref kl), ("code", .int c t)] G hr (by k_is) (by k_is) (fun s X S => by exact BindsTo.of_eq rfl) (by exact rfl) (by exact rfl) (by exact rfl) (by exact rfl) (by exact rfl) fun A' L g Q0 hr' hQ0 => ?_
  dsimp only [mB, List.foldl]
  wtm_at "zgo"
  refine nw_lstW (by rw [sizeLine_eq]; simp) fun a1 W1 ha1 le1 => ?_
  wtm_at "zgo"
  refine nw_lstW (by rw [sizeLine_eq]; simp) fun a2 W2 ha2 le2 => ?_
  wtm_at "zgo"
  refine nw_tupW (by rw [sizeLine_eq]; simp) fun a3 W3 ha3 le3 => ?_
  have ht3 : TupW W3 a3 [.ref a1, .ref a2] := tupW_new ha3
  have le03 := le1.trans (le2.trans le3)
  wtm_at "zgo"
  refine ⟨_, _, _, rfl, ht3.x, ?_⟩
  wtm_at "zgo"
  refine ex_for (fun _ => rfl) ?_
  wtm_at "zgo"
  refine ca_range1 fun r W4 hr4 le4 => ?_
  have le04 := le03.trans le4
  have r1 : RowV W4 (.ref a1) [c] := ⟨a1, _, rfl, lstW_new (le4 _ _ (le3 _ _ (le2 _ _ ha1))), .cons _ _ .nil⟩
  have r2 : RowV W4 (.ref a2) [c] := ⟨a2, _, rfl, lstW_new (le4 _ _ (le3 _ _ ha2)), .cons _ _ .nil⟩
  refine ⟨_, 9, _, itr_rg hr'.hd hr4 (by decide) (by decide) (by decide) (by decide) rfl, fun i m' W' X' => Ex4 fun bv rv best row => And11 (X' = X) (RowV W' bv best) (RowV W' rv row) (row ≠ []) (row.length ≤ i + 1) ((∀ c ∈ row, c < 1000)) (lawApart N kn (9 - i) best row = lawApart N kn 9 [c] [c]) (m' "normal" = some (.ref x)) (m' "known" = some (.ref kl)) (m' "best" = some bv) (m' "row" = some rv), ⟨.ref a1, .ref a2, [c], [c], rfl, r1, r2, nofun, by simp, fun c' h => by rw [List.mem_singleton.mp h]; exact hb, rfl, by wtm_at "zvr", by wtm_at "zvr", by wtm_at "zvr", by wtm_at "zvr"⟩, ?_, ?_⟩
  · intro i v m' W' X' g' T0 hT0 hii hJ1 hle hJ2 Gq hGq
    obtain ⟨ti, rfl⟩ := hJ1
    obtain ⟨bv, rv, best, row, rfl, hbv, hrv, hne, hrl, hrb, hlaw, v1, v2, v3, v4⟩ := hJ2
    have le0 := le04.trans hle
    have G' := G.up le0
    obtain ⟨rl, rvs, rfl, hrl', hri⟩ := hrv
    have hlen := hri.length
    have hkl' := hkl.up le0
    have hc' := hc.up le0
    obtain ⟨n, hn⟩ : ∃ n, 9 - i = n + 1 := ⟨8 - i, by omega⟩
    refine hGq _ _ ?_
    clear hGq Gq
    repeat' (wtm_at "znx")
    refine Tr.cut (fun fl m3 W3 X3 => And7 (fl = .next) (Le W' W3) (X3 = X') (m3 "normal" = some (.ref x)) (m3 "known" = some (.ref kl)) (m3 "row" = some (.ref rl)) (∃ bv', m3 "best" = some bv' ∧ RowV W3 bv' (if (row.all fun x => decide (x ∈ kn)) = true then row else best))) ?_ ?_
    · wtm_at "zex"
      wtm_at "zgo"
      refine ev_comp ["one"] (fun _ => rfl) (by with_unfolding_all rfl) (by decide) rfl (by decide) (cl1 rfl) (cl1 ⟨rfl, rfl⟩) ?_
      wtm_at "zgo"
      refine ⟨X', rvs.length, _, itr_list hr'.hd hrl', by rw [sizeLine_eq]; omega, fun j ys W2 X2 => Le W' W2 ∧ X2 = X' ∧ IntsAre ys ((row.take j).filter fun c => decide (¬ c ∈ kn)), ⟨Le.refl _, rfl, .nil⟩, ?_, ?_⟩
      · intro Cn j ys v mi W2 X2 g2 hj hv hle2 hag hJ2 _ T1 hT1 Gq hGq
        obtain ⟨_, rfl, hJ2⟩ := hJ2
        have vc : mi "known" = some (.ref kl) := ag_get hag (by decide) rfl (by wtm_at "zvr")
        obtain ⟨cj, hcj⟩ : ∃ cj, row[j]? = some cj := ⟨row[j]'(by rw [← hlen]; exact hj), by simp⟩
        obtain ⟨tj, hv'⟩ := hri.get j cj hcj
        refine hGq _ _ ?_
        clear hGq Gq
        rw [hv'] at hv
        obtain rfl := Option.some.inj hv
        obtain ⟨f1, f2⟩ := ints_filter hri j _ hJ2 hcj
        wtm_at "zgo"
        refine ts_one ?_
        wtm_at "zgo"
        refine co_nin (hkl'.up hle2).x hki ?_
        by_cases hm : cj ∈ kn
        · rw [decide_eq_false (not_not_intro hm)]
          wtm_at "zgo"
          exact ⟨hag.upd (by decide), hle2, rfl, f2 (by simp [hm])⟩
        · rw [decide_eq_true hm]
          wtm_at "zgo"
          exact ⟨hag.upd (by decide), hle2, rfl, f1 (by simp [hm]) _⟩
      · intro a5 o5 ys W5 X5 hle5 ho5 hyl hJ2 ha5 hx5 Gq hGq
        refine hGq _ ?_
        clear hGq Gq
        obtain ⟨_, rfl, hJ2⟩ := hJ2
        rw [List.take_of_length_le (by omega)] at hJ2
        wtm_at "zgo"
        refine Tr.freeze fun W6 hw6 le6 => ?_
        refine nw_lstW (by rw [sizeLine_eq]; simp) fun b W7 hb7 le7 => ?_
        have le57 := le6.trans le7
        refine co_eqi (LstW.x (LstW.up ⟨o5, hw6, ho5⟩ le7)) hJ2 (LstW.x (lstW_new hb7)) .nil hr'.eq ?_
        have he : (row.filter fun c => decide (¬ c ∈ kn)) = [] ↔ (row.all fun x => decide (x ∈ kn)) = true := by
          rw [List.filter_eq_nil_iff, List.all_eq_true]
          exact ⟨fun h z hz => by simpa using h z hz, fun h z hz => by simpa using h z hz⟩
        wtm_at "zgo"
        by_cases hall : (row.all fun x => decide (x ∈ kn)) = true
        · refine ite_t (decide_eq_true (he.mpr hall)) ?_
          wtm_at "zgo"
          exact ⟨rfl, hle5.trans le57, rfl, by wtm_at "zvr", by wtm_at "zvr", by wtm_at "zvr", .ref rl, by wtm_at "zvr", by rw [if_pos hall]; exact ⟨rl, rvs, rfl, hrl'.up (hle5.trans le57), hri⟩⟩
        · refine ite_f (decide_eq_false fun q => hall (he.mp q)) ?_
          wtm_at "zgo"
          exact ⟨rfl, hle5.trans le57, rfl, by wtm_at "zvr", by wtm_at "zvr", by wtm_at "zvr", bv, by wtm_at "zvr", by rw [if_neg hall]; exact hbv.up (hle5.trans le57)⟩
    intro fl m3 W3 X3 hJ3 Gq hGq
    obtain ⟨rfl, le3', rfl, w1, w2, w3, bv', w4, hbv'⟩ := hJ3
    have le03' := le0.trans le3'
    have G3 := G.up le03'
    have hc3 := hc.up le03'
    obtain ⟨dx, od, f, p, cc, pk, ck, h1, h2, h3, h4, h5, h6, h7, h8, h9, h10, h11⟩ := id hc3
    refine hGq _ _ _ _ ?_
    clear hGq Gq
    have hrl3 := hrl'.up le3'
    obtain ⟨c0, rest, rfl⟩ : ∃ c r, row = c :: r := by cases row with | nil => exact absurd rfl hne | cons c r => exact ⟨c, r, rfl⟩
    cases hri with
    | cons _ t0 hri0 =>
    rename_i rvs0
    simp only [List.length_cons] at hrl hlen
    rcases look_of (fun _ _ h => h.1) h9 c0 with ⟨q1, q2⟩ | ⟨a, b, q1, q2, q3⟩
    · have hs : (!(valueAt pk c0).isSome) = true := by rw [q2]; rfl
      have hsp : N.split (c0 :: rest) = none := by simp [Nm.split, Nm.partsOf, q1]
      wtm_at "zgo"
      refine ⟨?_, rfl⟩
      rw [hn, lawApart, hsp] at hlaw
      rw [← hlaw]; exact hbv'
    · have hs : (!(valueAt pk c0).isSome) = false := by rw [q2]; rfl
      refine und fun Gq hGq => ?_
      obtain ⟨b1, b2⟩ := b
      obtain ⟨o1, o2, o3, o4⟩ := hN c0 b1 b2 q1
      have hsp : N.split (c0 :: rest) = some (if b2 = 0 then b1 :: rest else b1 :: b2 :: rest) := by simp [Nm.split, Nm.partsOf, q1]
      obtain ⟨pa, t1, t2, rfl, hpt⟩ := Tup2.tupW q3.2
      refine hGq ?_
      clear hGq Gq
      wtm_at "zgo"
      refine nw_lstW (by rw [sizeLine_eq]; simp) fun d1 W6 hd1 le6 => ?_
      wtm_at "zgo"
      refine nw_lstW (by rw [sizeLine_eq]; simp) fun d2 W7 hd2 le7 => ?_
      wtm_at "zgo"
      refine ca_intb fun ti2 => ?_
      refine bo_mull hd2 (by split <;> decide) (by split <;> decide) (by simp) (by simp) fun d3 W8 hd3 le8 => ?_
      refine bo_addl (LstW.x (lstW_new (le8 _ _ (le7 _ _ hd1)))) (LstW.x (lstW_new hd3)) (by rw [sizeLine_eq]; split <;> simp) fun d4 W9 hd4 le9 => ?_
      have le39 := le6.trans (le7.trans (le8.trans le9))
      wtm_at "zgo"
      intro sl W10 hsl le10
      refine su_slc (hrl3.up (le39.trans le10)).x hsl (IsPart.int _ _) IsPart.none (fun i e => by cases e; decide) (fun i e => by cases e) (by rw [sizeLine_eq]; simp; omega) (by with_unfolding_all rfl) fun d5 W11 hd5 le11 => ?_
      refine bo_addl (LstW.x (lstW_new (le11 _ _ (le10 _ _ hd4)))) (LstW.x (lstW_new hd5)) (by rw [sizeLine_eq]; split <;> simp <;> omega) fun d6 W12 hd6 le12 => ?_
      have le312 := le39.trans (le10.trans (le11.trans le12))
      wtm_at "zgo"
      have hrow' : RowV W12 (.ref d6) (if b2 = 0 then b1 :: rest else b1 :: b2 :: rest) := by
        refine ⟨d6, _, rfl, lstW_new hd6, ?_⟩
        by_cases hb2 : b2 = 0
        · subst hb2
          simpa using IntsAre.cons _ _ hri0
        · have hp : 0 < b2 := by omega
          have hd : decide ((c0, b1, b2).2.2 > 0) = true := decide_eq_true hp
          rw [if_neg hb2]
          simpa [hp] using IntsAre.cons _ _ (IntsAre.cons _ _ hri0)
      refine ⟨bv', .ref d6, _, _, rfl, hbv'.up le312, hrow', by split <;> simp, by split <;> simp <;> omega, fun z hz => ?_, ?_, by wtm_at "zvr", by wtm_at "zvr", by wtm_at "zvr", by wtm_at "zvr"⟩
      · split at hz
        · rcases List.mem_cons.mp hz with rfl | hz
          · exact o2
          · exact hrb z (List.mem_cons_of_mem _ hz)
        · rcases List.mem_cons.mp hz with rfl | hz
          · exact o2
          rcases List.mem_cons.mp hz with rfl | hz
          · exact o4
          · exact hrb z (List.mem_cons_of_mem _ hz)
      · rw [hn, lawApart, hsp] at hlaw
        rw [show 9 - (i + 1) = n by omega]
        exact hlaw
  · intro m' W' X' hle hJ4 Gq hGq
    obtain ⟨bv, rv, best, row, rfl, hbv, hrv, hne, hrl, hrb, hlaw, v1, v2, v3, v4⟩ := hJ4
    refine hGq _ ?_
    clear hGq Gq
    wtm_at "zgo"
    refine ⟨?_, rfl⟩
    rw [← hlaw]; exact hbv
end
section -- F23
noncomputable def lawTurned (N : Nm) : Nat → List Rw → Nat → List Rw
  | 0, rs, _ => rs
  | n + 1, rs, a => if a < rs.length then lawTurned N n (turnC (rs.map N.cl) rs ((a : Int), ((a + ((rs.drop a).takeWhile fun r => decide (0 < N.cl r)).length : Nat) : Int))) (a + ((rs.drop a).takeWhile fun r => decide (0 < N.cl r)).length + 1) else rs
theorem takeWhile_next {α : Type} {p : α → Bool} : ∀ {l : List α} {k : Nat}, k ≤ (l.takeWhile p).length → k < l.length → (∃ x, l[k]? = some x ∧ (p x = true ↔ k < (l.takeWhile p).length))
  | [], k, _, h => by simp at h
  | a :: l, 0, _, _ => by
    refine ⟨a, rfl, ?_⟩
    rw [List.takeWhile_cons]
    cases p a <;> simp
  | a :: l, k + 1, h, hk => by
    rw [List.takeWhile_cons] at h ⊢
    cases q : p a with
    | false => rw [q] at h; simp at h
    | true =>
      rw [q] at h
      simp only [if_true, List.length_cons] at h hk ⊢
      obtain ⟨x, hx, hi⟩ := takeWhile_next (p := p) (l := l) (k := k) (by omega) (by omega)
      exact ⟨x, by simpa using hx, hi.trans (by omega)⟩
local macro_rules | `(tactic| wtm_at "zvr") => `(tactic| (refine lam_get rfl rfl ?_; wtm_at "zvr"))
theorem span_mono {ts : List Rw} {b e : Nat} {lo hi : Int} (hm : Mono ts) (hbe : b < e) (he : e ≤ ts.length) (h : Span ((ts.take e).drop b) lo hi) : lo = clu ts b ∧ hi = clu ts (e - 1) := by
  have mem : ∀ k, b ≤ k → k < e → clu ts k ∈ ((ts.take e).drop b).map (·.2.1) := fun k h1 h2 => by
    refine List.mem_map.mpr ⟨ts[k]'(by omega), List.mem_of_getElem? (i := k - b) ?_, ?_⟩
    · rw [slice_get (by omega), show b + (k - b) = k by omega, List.getElem?_eq_getElem (by omega)]
    · unfold clu; rw [List.getElem?_eq_getElem (by omega)]; rfl
  have inv : ∀ z ∈ ((ts.take e).drop b).map (·.2.1), ∃ k, b ≤ k ∧ k < e ∧ z = clu ts k := fun z hz => by
    refine und fun Gq hGq => ?_
    obtain ⟨r, hr, rfl⟩ := List.mem_map.mp hz
    obtain ⟨i, hi⟩ := List.mem_iff_getElem?.mp hr
    refine hGq ?_
    clear hGq Gq
    have hl := (List.getElem?_eq_some_iff.mp hi).1
    rw [slice_len he] at hl
    rw [slice_get hl] at hi
    exact ⟨b + i, by omega, by omega, (clu_of hi).symm⟩
  refine und fun Gq hGq => ?_
  obtain ⟨h1, h2, h3, h4⟩ := h
  obtain ⟨k1, a1, a2, rfl⟩ := inv _ h1
  obtain ⟨k2, b1, b2, rfl⟩ := inv _ h3
  refine hGq ?_
  clear hGq Gq
  have c1 := h2 _ (mem b (Nat.le_refl _) hbe)
  have c2 := hm b k1 a1 (by omega)
  have c3 := h4 _ (mem (e - 1) (by omega) (by omega))
  have c4 := hm k2 (e - 1) (by omega) (by omega)
  omega
theorem lawturned_spec {w : World} {A : Around} {W : Wd} {X : Led} {x : Addr} {v0 : Value} {N : Nm} {rs : List Rw} (G : GW w (Mine.hd.heap_1 w.params) W) (hr : Room A 6) (hn : NormW PG w W x N) (hv : RowsW W v0 rs) (hm : Mono rs) (hz : rs.length < 64) (hC : CodeW W 336 334) :
    Cl PG w A W ((334, tabObj #[]) :: X) (.ref 337) [.ref x, v0] fun v W' X' => RowsW W' v (lawTurned N (rs.length + 1) rs 0) ∧ ∃ ps, X' = (334, tabObj ps) :: X := by
  refine Cl.enter [("normal", .ref x), ("rows", v0)] G hr (by k_is) (by k_is) (fun s X S => by exact BindsTo.of_eq rfl) (by exact rfl) (by exact rfl) (by exact rfl) (by exact rfl) (by exact rfl) fun A' L g Q0 hr' hQ0 => ?_
  dsimp only [mB, List.foldl]
  wtm_at "zgo"
  rename_i t1
  refine ex_while (J := fun n m' W' X' => Ex5 fun rv ts a u ps => And12 (rs.length + 1 ≤ n + a) ((a ≤ ts.length + 1)) (ts.length = rs.length) (Mono ts) (Le W W') (X' = (334, tabObj ps) :: X) (TabW W' ⟨264, 44, 264, 86⟩ (("_law_turned" ++ ".<locals>.") ++ "<lambda>") ps) (RowsW W' rv ts) (lawTurned N n ts a = lawTurned N (rs.length + 1) rs 0) (m' "normal" = some (.ref x)) (m' "rows" = some rv) (m' "at" = some (.int (a : Int) u))) (rs.length + 1)
    ⟨v0, rs, 0, _, #[], by omega, by omega, rfl, hm, Le.refl _, rfl, .inl rfl, hv, rfl, by wtm_at "zvr", by wtm_at "zvr", by wtm_at "zvr"⟩ ?_
  intro n m' W' X' g' T0 hT0 hJ1 Gq hGq
  obtain ⟨rv, ts, a, u, ps, hna, hal, hlen, hmono, le, rfl, hT, hrv, hlaw, v1, v2, v3⟩ := hJ1
  have G' := G.up le
  have hn' := hn.up le
  obtain ⟨rl, rvs, rfl, hrl, hA⟩ := hrv
  refine hGq _ ?_
  clear hGq Gq
  have hrl0 := hA.length
  wtm_at "zgo"
  refine ca_len hrl.x (by rw [sizeLine_eq]; omega) fun _ => ?_
  wtm_at "zgo"
  wtm_at "zite"
  · rename_i hlt
    have ha : a < ts.length := by omega
    obtain ⟨n, rfl⟩ : ∃ k, n = k + 1 := ⟨n - 1, by omega⟩
    rw [lawTurned, if_pos ha] at hlaw
    have hcl := (List.takeWhile_prefix (l := ts.drop a) (fun r => decide (0 < N.cl r))).length_le
    rw [List.length_drop] at hcl
    have htn := fun k => takeWhile_next (p := fun r => decide (0 < N.cl r)) (l := ts.drop a) (k := k)
    generalize hcq : ((ts.drop a).takeWhile fun r => decide (0 < N.cl r)).length = q at hlaw hcl htn
    repeat' (wtm_at "znx")
    wtm_at "zev"
    repeat' (wtm_at "znx")
    refine Tr.cut (fun fl m3 W3 X3 => And7 (fl = .next) (Le W' W3) (X3 = (334, tabObj ps) :: X) (m3 "normal" = some (.ref x)) (m3 "rows" = some (.ref rl)) (m3 "at" = some (.int (a : Int) u)) (∃ u2, m3 "end" = some (.int ((a + q : Nat) : Int) u2))) ?_ ?_
    · refine ex_while (J := fun n m' W2 X2 => Ex2 fun (k : Nat) (u2 : Tok) => And8 (n = q - k) (k ≤ q) (Le W' W2) (X2 = (334, tabObj ps) :: X) (m' "normal" = some (.ref x)) (m' "rows" = some (.ref rl)) (m' "at" = some (.int (a : Int) u)) (m' "end" = some (.int ((a + k : Nat) : Int) u2))) q
        ⟨0, u, rfl, Nat.zero_le _, Le.refl _, rfl, by wtm_at "zvr", by wtm_at "zvr", by wtm_at "zvr", by wtm_at "zvr"⟩ ?_
      intro n2 m4 W4 X4 g4 T0 hT0 hJ2 Gq hGq
      obtain ⟨k, u4, hnk, hkq, le4, rfl, w1, w2, w3, w4⟩ := hJ2
      refine hGq _ ?_
      clear hGq Gq
      have G4 := G'.up le4
      have hrl4 := hrl.up le4
      refine Tr.cut (fun b m2 W2 X2 => And4 ((b = true ↔ k < q)) (m2 = m4) (Le W4 W2) (X2 = (334, tabObj ps) :: X)) ?_ ?_
      · wtm_at "zgo"
        refine ca_len hrl4.x (by rw [sizeLine_eq]; omega) fun _ => ?_
        wtm_at "zgo"
        wtm_at "zite"
        · rename_i hlt2
          obtain ⟨r, hr1, hr2⟩ := htn k hkq (by rw [List.length_drop]; omega)
          rw [List.getElem?_drop] at hr1
          obtain ⟨rv2, hrv2, hT2⟩ := hA.get _ _ hr1
          wtm_at "zgo"
          refine su_lst hrl4.x (by omega) (by omega +splitDisjunctions) (by rw [show ((a + k : Nat) : Int).toNat = a + k by omega]; exact hrv2) (by with_unfolding_all rfl) ?_
          wtm_at "zgo"
          refine Tr.call0G (lawclass_spec G4 (hr'.le (by decide)) (hn'.up le4) (hT2.up le4)) fun Gq W5 v le5 hGq hK1 => ?_
          obtain ⟨t5, e5⟩ := hK1
          subst e5
          refine hGq _ ?_
          clear hGq Gq
          wtm_at "zgo"
          by_cases hq : decide (0 < N.cl r) = true
          · refine ite_t hq ?_
            wtm_at "zgo"
            exact ⟨⟨fun _ => hr2.mp hq, fun _ => rfl⟩, rfl, le5, rfl⟩
          · refine ite_f (by simpa using hq) ?_
            exact ⟨⟨nofun, fun h => absurd (hr2.mpr h) hq⟩, rfl, le5, rfl⟩
        · rename_i hlt2
          have : k = q := by omega
          exact ⟨⟨nofun, fun h => by omega⟩, rfl, Le.refl _, rfl⟩
      intro bb m2 W2 X2 hJ3 Gq hGq
      obtain ⟨hbb, rfl, le2, rfl⟩ := hJ3
      refine hGq _ _ _ _ ?_
      clear hGq Gq
      cases bb with
      | true =>
        have hk := hbb.mp rfl
        refine ite_t rfl ?_
        wtm_at "zgo"
        rename_i t6
        refine ⟨n2 - 1, by omega, k + 1, t6, by omega, by omega, le4.trans le2, rfl, by wtm_at "zvr", by wtm_at "zvr", by wtm_at "zvr", ?_⟩
        rw [show ((a + (k + 1) : Nat) : Int) = ((a + k : Nat) : Int) + 1 by omega]; exact upd_same
      | false =>
        have hk : k = q := by
          rcases Nat.lt_or_ge k q with h | h
          · have := hbb.mpr h; cases this
          · omega
        subst hk
        refine ite_f rfl ?_
        wtm_at "zgo"
        exact ⟨rfl, le4.trans le2, rfl, w1, w2, w3, u4, w4⟩
    intro fl m3 W3 X3 hJ4 Gq hGq
    obtain ⟨rfl, le3, rfl, w1, w2, w3, u2, w4⟩ := hJ4
    refine hGq _ _ _ _ ?_
    clear hGq Gq
    wtm_at "zgo"
    intro sl W4 hsl le4
    refine su_slc (hrl.up (le3.trans le4)).x hsl (IsPart.int _ _) (IsPart.int _ _) (fun i e => by cases e; omega) (fun i e => by cases e; omega) (by rw [sizeLine_eq]; omega) (by with_unfolding_all rfl) fun r5 W5 h5 le5 => ?_
    have hl5 := lstW_new h5
    simp only [Option.elim, Int.toNat_natCast] at hl5
    have le05 := le3.trans (le4.trans le5)
    have G5 := G'.up le05
    have hA5 := (((hA.mono fun _ _ z => z.up le05).take (a + q)).drop a)
    generalize hrr : (ts.take (a + q)).drop a = rr at hA5
    have hrrl : rr.length = q := by rw [← hrr, slice_len (by omega)]; omega
    have hks : ((ts.map N.cl).take (a + q)).drop a = rr.map N.cl := by rw [← hrr]; simp
    generalize hrun : (rvs.take (a + q)).drop a = run at hl5 hA5
    have hrunl := hA5.length
    have hC5 := (hC.up le).up le05
    have hT5 := hT.up le05
    wtm_at "zgo"
    refine ev_callK (by with_unfolding_all rfl) ?_
    wtm_at "zgo"
    refine cw_kw1 rfl rfl rfl ?_
    wtm_at "zgo"
    refine ca_len hl5.x (by rw [sizeLine_eq]; omega) fun _ => ?_
    wtm_at "zgo"
    refine ca_range1 fun r6 W6 hr6 le6 => ?_
    wtm_at "zgo"
    refine ev_lam (G5.up le6) rfl rfl (hC5.up le6) (hT5.up le6) rfl rfl fun qf c' pm ctv W7 ps' hqf hrec hT7 le7 => ?_
    have le07 := le05.trans (le6.trans le7)
    refine ca_sortK (n := q) (kz := rr.map N.cl) hr'.hd (by rw [← hrrl, ← hrunl]; exact hr6.up le7) (by omega) (by rw [List.length_map, hrrl]) (fun i ti k hk Wc Xc lec _ => ?_) fun ro out os W8 hl8 hi8 hpm hpw le8 => ?_
    · have hrm : Room A'.in1.in1 3 := hr'.in1.in1
      refine und fun Gq hGq => ?_
      obtain ⟨r0, hr0, rfl⟩ : ∃ r0, rr[i]? = some r0 ∧ N.cl r0 = k := by
        rw [List.getElem?_map] at hk
        exact Option.map_eq_some_iff.mp hk
      obtain ⟨rv0, hrv0, hT0⟩ := hA5.get _ _ hr0
      refine hGq ?_
      clear hGq Gq
      refine ca_lam (x := "spot") (Q := fun r W'' X'' => (∃ t, r = .int (N.cl r0) t) ∧ X'' = Xc) ((G5.up (le6.trans le7)).up lec) hrm (lec _ _ hqf) (hrec.up lec) (by exact rfl) (by exact rfl) (by exact cl2 rfl rfl) (by exact cl2 ⟨rfl, rfl⟩ ⟨rfl, rfl⟩) (by decide) fun L2 g2 hro => ?_
      have lex := (le6.trans le7).trans lec
      have Gx := G5.up lex
      wtm_at "zgo"
      refine su_lst (hl5.up lex).x (by omega) (by have := (List.getElem?_eq_some_iff.mp hrv0).1; omega +splitDisjunctions) (by rw [Int.toNat_natCast]; exact hrv0) (by with_unfolding_all rfl) ?_
      wtm_at "zgo"
      refine Tr.call0G (lawclass_spec Gx (hro.le (by decide)) ((hn'.up le05).up lex) (hT0.up lex)) fun Gq W9 v le9 hGq hK2 => ?_
      obtain ⟨t9, e9⟩ := hK2
      subst e9
      refine hGq _ ?_
      clear hGq Gq
      exact ⟨cl2 (lam_get rfl rfl rfl) (lam_get rfl rfl rfl), ⟨t9, rfl⟩, rfl⟩
    have le08 := le07.trans le8
    have hio : IsOrd (rr.map N.cl) os := ⟨by rw [List.length_map, hrrl]; exact hpm, hpw⟩
    have hok := ordK_of hio
    have hosl : os.length = q := by rw [hpm.length_eq]; simp
    have G8 := G'.up le08
    have hrun8 := (hl5.up (le6.trans le7)).up le8
    wtm_at "zgo"
    refine ca_len hrun8.x (by rw [sizeLine_eq]; omega) fun _ => ?_
    wtm_at "zgo"
    refine ca_range1 fun r10 W10 hr10 le10 => ?_
    wtm_at "zgo"
    refine ca_lrange (n := q) hr'.hd hr10 (small_one (by omega) (by omega) (by omega) (by omega +splitDisjunctions)) (by rw [rangeSize_nat]; congr 1; omega) (by omega) fun l11 W11 vs11 hl11 hi11 le11 => ?_
    have hid : ((List.range q).map fun (i : Nat) => (0 : Int) + (i : Int)) = idK q := by unfold idK; exact List.map_congr_left fun i _ => by omega
    rw [hid] at hi11
    refine co_nei (((hl8.up le10).up le11).x) hi8 hl11.x hi11 hr'.eq ?_
    have le1 := le10.trans le11
    have le01 := le08.trans le1
    have htC : turnC (ts.map N.cl) ts ((a : Int), ((a + q : Nat) : Int)) = if os = idK q then ts else (mergedR ts (clu ts a) (clu ts (a + q - 1))).take a ++ (os.map fun i => (mergedR ts (clu ts a) (clu ts (a + q - 1))).getD (a + i.toNat) rwZ) ++ (mergedR ts (clu ts a) (clu ts (a + q - 1))).drop (a + q) := by
      unfold turnC
      simp only [Int.toNat_natCast]
      rw [hks, hok, show a + q - a = q by omega]
    rw [htC] at hlaw
    wtm_at "zgo"
    by_cases hsame : os = idK q
    · rw [if_pos hsame] at hlaw
      refine ite_f (decide_eq_false fun h => h hsame) ?_
      wtm_at "zgo"
      rename_i t12
      refine ⟨n, by omega, .ref rl, ts, a + q + 1, t12, ps', by omega, by omega, hlen, hmono, le.trans le01, rfl, hT7.up (le8.trans le1), ⟨rl, rvs, rfl, hrl.up le01, hA.mono fun _ _ z => z.up le01⟩, hlaw, by wtm_at "zvr", by wtm_at "zvr", ?_⟩
      rw [show ((a + q + 1 : Nat) : Int) = ((a + q : Nat) : Int) + 1 by omega]; exact upd_same
    · rw [if_neg hsame] at hlaw
      refine ite_t (decide_eq_true hsame) ?_
      have hq2 : 2 ≤ q := by
        rcases Nat.lt_or_ge q 2 with h | h
        · have := ord_small hio (by rw [List.length_map, hrrl]; omega)
          rw [List.length_map, hrrl] at this
          exact absurd this hsame
        · exact h
      have hti := turn_ok (cs := ts.map N.cl) (b := a) (e := a + q) hmono (by omega) (by omega) (by simp) ⟨os, by rw [hks]; exact hio⟩
      rw [htC, if_neg hsame] at hti
      have G11 := G'.up le01
      wtm_at "zgo"
      refine Tr.call0G (lawmerged_spec (ss := rr) G11 (hr'.le (by decide)) (⟨rl, rvs, rfl, hrl.up le01, hA.mono fun _ _ z => z.up le01⟩ : RowsW _ _ ts) ⟨r5, run, rfl, hrun8.up le1, hA5.mono fun _ _ z => z.up ((le6.trans le7).trans (le8.trans le1))⟩ (fun h => by rw [h] at hrrl; simp at hrrl; omega) (by omega) (by omega)) fun Gq W12 v le12 hGq hK3 => ?_
      obtain ⟨lo, hi, hsp, hms⟩ := hK3
      refine hGq _ ?_
      clear hGq Gq
      obtain ⟨rfl, rfl⟩ := span_mono hmono (by omega : a < a + q) (by omega) (by rw [hrr]; exact hsp)
      have hml : (mergedR ts (clu ts a) (clu ts (a + q - 1))).length = ts.length := merged_len
      generalize mergedR ts (clu ts a) (clu ts (a + q - 1)) = ms at hlaw hti hms hml
      refine und fun Gq hGq => ?_
      obtain ⟨ml, mvs, rfl, hmll, hmA⟩ := hms
      refine hGq ?_
      clear hGq Gq
      have hmvl := hmA.length
      wtm_at "zgo"
      intro sl13 W13 hsl13 le13
      refine su_slc (hmll.up le13).x hsl13 (IsPart.int _ _) (IsPart.int _ _) (fun i e => by cases e; omega) (fun i e => by cases e; omega) (by rw [sizeLine_eq]; omega) (by with_unfolding_all rfl) fun r14 W14 h14 le14 => ?_
      have hl14 := lstW_new h14
      simp only [Option.elim, Int.toNat_natCast] at hl14
      have le1214 := le13.trans le14
      wtm_at "zgo"
      intro sl15 W15 hsl15 le15
      refine su_slc (hmll.up (le1214.trans le15)).x hsl15 IsPart.none (IsPart.int _ _) (fun i e => by cases e) (fun i e => by cases e; omega) (by rw [sizeLine_eq]; omega) (by with_unfolding_all rfl) fun r16 W16 h16 le16 => ?_
      have hl16 := lstW_new h16
      simp only [Option.elim, Int.toNat_natCast, List.drop_zero] at hl16
      have le1416 := le15.trans le16
      refine ev_comp ["spot"] (fun _ => rfl) (by with_unfolding_all rfl) (by decide) rfl (by decide) (cl1 rfl) (cl1 ⟨rfl, rfl⟩) ?_
      wtm_at "zgo"
      have hol16 := ((((hl8.up le1).up le12).up le1214).up le1416)
      have hout := hi8.length
      refine ⟨_, out.length, _, itr_list hr'.hd hol16, by rw [sizeLine_eq]; omega, fun j ys W2 X2 => Le W16 W2 ∧ X2 = (334, tabObj ps') :: X ∧ All2 (Tup4 W2) ys ((os.take j).map fun i => ms.getD (a + i.toNat) rwZ), ⟨Le.refl _, rfl, .nil⟩, ?_, ?_⟩
      · intro Cn j ys' v mi W17 X17 g17 hj hP17 hle17 hag hK4 hyl17 T1 hT1 Gq hGq
        obtain ⟨_, rfl, hAj⟩ := hK4
        refine hGq _ _ ?_
        clear hGq Gq
        have vb : mi "run" = some (.ref r14) := ag_get hag (by decide) rfl (by wtm_at "zvr")
        refine und fun Gq hGq => ?_
        obtain ⟨z, hz'⟩ : ∃ z, os[j]? = some z := ⟨_, List.getElem?_eq_getElem (by omega)⟩
        obtain ⟨k, rfl, hk2⟩ := ord_mem hio (List.mem_of_getElem? hz')
        refine hGq ?_
        clear hGq Gq
        rw [List.length_map, hrrl] at hk2
        obtain ⟨tz, hz3⟩ := hi8.get j _ hz'
        rw [hz3] at hP17
        obtain rfl := Option.some.inj hP17
        have hkn : ms[a + k]? = some (ms.getD (a + k) rwZ) := by rw [List.getD_eq_getElem?_getD, List.getElem?_eq_getElem (by omega)]; rfl
        obtain ⟨mv, hmv, hmT⟩ := hmA.get _ _ hkn
        wtm_at "zgo"
        refine ts_nil ?_
        refine ite_t rfl ?_
        wtm_at "zgo"
        refine su_lst ((hl14.up le1416).up hle17).x (by omega) (by omega +splitDisjunctions) (by rw [Int.toNat_natCast, slice_get (by omega)]; exact hmv) (by with_unfolding_all rfl) ?_
        wtm_at "zgo"
        refine ⟨hag.upd (by decide), hle17, rfl, ?_⟩
        rw [List.take_add_one, hz', List.map_append]
        exact hAj.snoc (hmT.up (le1214.trans (le1416.trans hle17)))
      · intro a18 o18 ys18 W18 X18 hle18 ho18 hyl18 hK5 ha18 hx18 Gq hGq
        obtain ⟨_, rfl, hA18⟩ := hK5
        refine hGq _ ?_
        clear hGq Gq
        rw [List.take_of_length_le (by omega)] at hA18
        refine Tr.freeze fun W19 hw19 le19 => ?_
        have hyl := hA18.length
        rw [List.length_map] at hyl
        have le1619 := hle18.trans le19
        refine bo_addl ((hl16.up le1619).x) (LstW.x (⟨o18, hw19, ho18⟩ : LstW W19 a18 _)) (by rw [sizeLine_eq]; simp; omega) fun r20 W20 h20 le20 => ?_
        have le1220 := le1214.trans (le1416.trans (le1619.trans le20))
        wtm_at "zgo"
        intro sl21 W21 hsl21 le21
        refine su_slc (hmll.up (le1220.trans le21)).x hsl21 (IsPart.int _ _) IsPart.none (fun i e => by cases e; omega) (fun i e => by cases e) (by rw [sizeLine_eq]; omega) (by with_unfolding_all rfl) fun r22 W22 h22 le22 => ?_
        have hl22 := lstW_new h22
        simp only [Option.elim, Int.toNat_natCast] at hl22
        rw [List.take_of_length_le (Nat.le_refl _)] at hl22
        refine bo_addl (LstW.x (lstW_new (le22 _ _ (le21 _ _ h20)))) hl22.x (by rw [sizeLine_eq]; simp; omega) fun r23 W23 h23 le23 => ?_
        have hl23 := lstW_new h23
        have le1223 := le1220.trans (le21.trans (le22.trans le23))
        have le123 := le12.trans le1223
        wtm_at "zgo"
        rename_i t24
        have hm23 := hmA.mono fun _ _ z => z.up le1223
        have h1823 : Le W18 W23 := le19.trans (le20.trans (le21.trans (le22.trans le23)))
        refine ⟨n, by omega, .ref r23, _, a + q + 1, t24, ps', by omega, by rw [hti.1]; omega, by rw [hti.1]; exact hlen, hti.2, le.trans (le01.trans le123), rfl, hT7.up (le8.trans (le1.trans le123)), ⟨r23, _, rfl, hl23, ?_⟩, hlaw, by wtm_at "zvr", by wtm_at "zvr", ?_⟩
        · exact All2.append (All2.append (hm23.take a) (hA18.mono fun _ _ z => z.up h1823)) (hm23.drop (a + q))
        · rw [show ((a + q + 1 : Nat) : Int) = ((a + q : Nat) : Int) + 1 by omega]; exact upd_same
  · rename_i hlt
    have ha : ¬ a < ts.length := by omega
    wtm_at "zgo"
    refine ⟨?_, ps, rfl⟩
    have : lawTurned N n ts a = ts := by
      cases n with
      | zero => rfl
      | succ n => rw [lawTurned, if_neg ha]
    rw [← hlaw, this]
    exact ⟨rl, rvs, rfl, hrl, hA⟩
end
section -- F24
theorem whs_nodup {ps : List (Int × Int × Int)} (h : (ps.map (·.2)).Nodup) : ((Nm.whsOf ps).map fun y => [y.1.1, y.1.2]).Nodup := by
  unfold Nm.whsOf
  rw [List.map_map]
  have h1 : ((ps.filter fun p => decide (p.2.2 ≠ 0)).map (·.2)).Nodup := h.sublist (List.filter_sublist.map _)
  rw [List.nodup_iff_pairwise_ne, List.pairwise_map] at h1 ⊢
  refine h1.imp fun {a b} hab e => hab ?_
  simp only [Function.comp, List.cons.injEq, and_true] at e
  exact Prod.ext e.1 e.2
section
variable {prog : Program} {w : World} {A : Around} {env : Env} {g : Org} {m : Vm} {W : Wd} {X : Led} {s : Shared} {Q : Value → Vm → Wd → Led → Prop}
/-- t[a:] of a tuple, whatever stands ahead -/
theorem su_sltA {value slice : Expr} {t sl : Addr} {vs : List Value} {a : Nat} {u : Tok} (ht : TupX W X t vs) (hs : SlcW W sl (.int a u) .none) (h1 : 1 ≤ a) (ha : a ≤ vs.length) (hz : vs.length ≤ 1000)
    {ops : List Value} (he : subscripted slice false (.ref t) (.ref sl) = operate ops (getItem (.ref t) (.ref sl)))
    (h : ∀ r W', W' r = some { cls := .type "tuple", data := .seq (vs.drop a).toArray } → Le W W' → Q (.ref r) m W' X) : Tr prog w A env g m W X (subscriptTail value slice (.ref t) (.ref sl)) Q := .mk fun s C => by
  have hT := C.adv.st.tup ht
  refine tail_any hT.typeIs slot_tuple_getitem.lookup (getItem_tuple_from (a := a) hT ⟨_, C.adv.st.w _ _ hs, rfl, rfl⟩ h1 (by rw [List.size_toArray]; exact ha) ?_ (by rw [List.size_toArray, sizeLine_eq]; omega)) he
  have B := C.pushW { cls := .type "tuple", data := .seq (vs.toArray.toList.drop a).toArray }
  exact ⟨_, _, _, B.1, h _ _ (by rw [put_same]) (put_le B.2)⟩
end
noncomputable def letters (N : Nm) (done : List Rw) : List Nat := (List.range done.length).filter fun i => decide (N.cl (done.getD i rwZ) = 0)
noncomputable def lastLet (N : Nm) (done : List Rw) : Option Nat := (letters N done).getLast?
noncomputable def ljWhole (N : Nm) (ws : List ((Int × Int) × Int)) (done : List Rw) (row : Rw) : Int := match lastLet N done with
  | none => 0
  | some s => if row.2.2.1 = 0 ∧ (done.getD s rwZ).2.2.1 = 0 then (match ((done.drop (s + 1)).map N.cl).getLast? with
      | none => whoOf ws ((done.getD s rwZ).1, row.1)
      | some b => if b < N.cl row then whoOf ws ((done.getD s rwZ).1, row.1) else 0) else 0
noncomputable def lawJoined (N : Nm) (ws : List ((Int × Int) × Int)) (kn : List Int) : Nat → List Rw → List Rw → List Rw
  | 0, done, _ => done
  | _ + 1, done, [] => done
  | n + 1, done, row :: rest =>
    if ljWhole N ws done row ∈ kn ∧ 0 < ljWhole N ws done row then
      lawJoined N ws kn n ((joinAt (done ++ row :: rest) ((lastLet N done).getD 0) done.length (ljWhole N ws done row)).take done.length) ((joinAt (done ++ row :: rest) ((lastLet N done).getD 0) done.length (ljWhole N ws done row)).drop done.length)
    else lawJoined N ws kn n (done ++ [row]) rest
theorem ints_unsnoc {vs : List Value} {ns : List Int} {n : Int} (h : IntsAre vs (ns ++ [n])) : ∃ us t, vs = us ++ [.int n t] := by
  obtain ⟨t, ht⟩ := h.get ns.length n (by simp)
  have hl := h.length
  rw [List.length_append, List.length_singleton] at hl
  refine ⟨vs.take ns.length, t, ?_⟩
  have : vs.take (ns.length + 1) = vs := List.take_of_length_le (by omega)
  rw [List.take_add_one, ht] at this
  exact this.symm
theorem lawjoined_spec {w : World} {A : Around} {W : Wd} {X : Led} {x : Addr} {kv v0 : Value} {N : Nm} {kn : List Int} {rs : List Rw} (G : GW w (Mine.hd.heap_1 w.params) W) (hr : Room A 4) (hn : NormW PG w W x N) (hd : (N.parts.map (·.2)).Nodup) (hdk : (N.parts.map (·.1)).Nodup) (h64 : N.parts.length < 64) (hb0 : ∀ p ∈ N.parts, 0 ≤ p.2.2)
    (hk : RowV W kv kn) (hv : RowsW W v0 rs) (hm : Mono rs) (hz : rs.length < 64) :
    Cl PG w A W X (.ref 342) [.ref x, kv, v0] fun v W' X' => RowsW W' v (lawJoined N N.whs kn rs.length [] rs) ∧ X' = X := by
  refine und fun Gq hGq => ?_
  obtain ⟨kl, kvs, rfl, hkl, hki⟩ := hk
  obtain ⟨rl, rvs, rfl, hrl, hA⟩ := hv
  have hrv := hA.length
  obtain ⟨dx, od, f, p, cc, pk, ck, h1, h2, h3, h4, h5, h6, h7, h8, h9, h10, h11⟩ := id hn
  refine hGq ?_
  clear hGq Gq
  have hlen := h9.length
  have hko := keys_of h9
  have hnd : (pk.map (·.1)).Nodup := by rw [hko]; exact hdk
  refine Cl.enter [("normal", .ref x), ("known", .ref kl), ("rows", .ref rl)] G hr (by k_is) (by k_is) (fun s X S => by exact BindsTo.of_eq rfl) (by exact rfl) (by exact rfl) (by exact rfl) (by exact rfl) (by exact rfl) fun A' L g Q0 hr' hQ0 => ?_
  dsimp only [mB, List.foldl]
  wtm_at "zgo"
  refine ev_compP ["code"] (fun _ => rfl) (by with_unfolding_all rfl) (by decide) rfl (by decide) (cl1 rfl) (cl1 ⟨rfl, rfl⟩) ?_
  wtm_at "zgo"
  refine ⟨_, pk.length, _, itr_dct hr'.hd h8, by rw [sizeLine_eq]; omega, fun j ys W2 X2 => Le W W2 ∧ X2 = X ∧ ∃ xs, All2 WhoR xs (Nm.whsOf (N.parts.take j)) ∧ All2 (fun v (x : List Int × Addr × Value) => KeyW PG w W2 x.1 x.2.1 ∧ PairW W2 v (.ref x.2.1) x.2.2) ys xs, ⟨Le.refl _, rfl, [], .nil, .nil⟩, ?_, ?_⟩
  · intro Cn j ys v mi W2 X2 g2 hj hJ1 hle2 hag hJ2 hyl T1 hT1 Gq hGq
    obtain ⟨k, y, hpk, tk, rfl⟩ := hJ1
    obtain ⟨_, rfl, xs, hI1, hI2⟩ := hJ2
    have vn : mi "normal" = some (.ref x) := ag_get hag (by decide) rfl (by wtm_at "zvr")
    obtain ⟨q, hq, hR1, hR2⟩ := h9.get' _ _ hpk
    refine hGq _ _ ?_
    clear hGq Gq
    simp only at hR1 hR2
    have hva : valueAt pk k = some y := valueAt_of_get hnd hpk
    refine und fun Gq hGq => ?_
    obtain ⟨a, t1, t2, rfl, hta⟩ := hR2.up hle2
    refine hGq ?_
    clear hGq Gq
    have htw : TupW W2 a [.int q.2.1 t1, .int q.2.2 t2] := tupW_new hta
    have htk : N.parts.take (j + 1) = N.parts.take j ++ [q] := by rw [List.take_add_one, hq]; rfl
    have h8' := h8.up hle2
    have hq0 := hb0 q (List.mem_of_getElem? hq)
    replace h1 := hle2 _ _ h1
    replace h2 := hle2 _ _ h2
    wtm_at "zgo"
    refine ts_one ?_
    wtm_at "zgo"
    by_cases hb : 0 < q.2.2
    · rw [decide_eq_true hb]
      wtm_at "zgo"
      refine nw_tupW (by rw [sizeLine_eq]; simp) fun b W3 hb3 le3 => ?_
      obtain ⟨a', e', hkw⟩ := Tup2.key (prog := PG) (w := w) (p := q.2) (⟨a, t1, t2, rfl, hta⟩ : Tup2 W2 (.ref a) q.2)
      cases e'
      wtm_at "zgo"
      refine ⟨hag.upd (by decide), hle2.trans le3, rfl, xs ++ [([q.2.1, q.2.2], a, .int k tk)], ?_, ?_⟩
      · rw [htk, whs_snoc, if_neg (by omega)]
        exact hI1.snoc ⟨rfl, tk, by rw [← hR1]⟩
      · exact (hI2.mono fun _ _ z => ⟨z.1.up le3, let ⟨a, e, h⟩ := z.2; ⟨a, e, le3 _ _ h⟩⟩).snoc ⟨hkw.up le3, b, rfl, hb3⟩
    · rw [decide_eq_false hb]
      wtm_at "zgo"
      refine ⟨hag.upd (by decide), hle2, rfl, xs, ?_, hI2⟩
      rw [htk, whs_snoc, if_pos (by omega), List.append_nil]
      exact hI1
  intro a3 o3 ys3 W3 X3 hle3 ho3 hyl3 hJ3 ha3 hx3 Gq hGq
  obtain ⟨_, rfl, xs, hI1, hI2⟩ := hJ3
  refine hGq _ ?_
  clear hGq Gq
  rw [List.take_of_length_le (by omega)] at hI1
  refine Tr.freeze fun W4 hw4 le4 => ?_
  wtm_at "zgo"
  have le04 := hle3.trans le4
  have hxl := hI2.length
  have hwl := hI1.length
  refine ca_dictT (by have := hr'.un; omega) hr'.hd (G.up le04) ⟨_, rfl⟩ hw4 ho3 (by omega) hxl (fun i v e => ?_) ?_ fun d o hT hd1 hd2 => ?_
  · obtain ⟨z, hz, h1, b, e2, h2⟩ := hI2.get' _ _ e
    exact ⟨z, hz, h1.up le4, b, e2, le4 _ _ h2⟩
  · rw [whs_keys hI1]; exact whs_nodup hd
  refine Tr.freeze fun W5 hw5 le5 => ?_
  have hT5 := hT.ice hd2 hw5 le5
  have hwho : WhoW w W5 d N.whs := ⟨xs, hT5, hI1⟩
  have le05 := le04.trans le5
  have G5 := G.up le05
  wtm_at "zgo"
  refine nw_lstW (by rw [sizeLine_eq]; simp) fun a6 W6 ha6 le6 => ?_
  wtm_at "zgo"
  have hrl6 := hrl.up (le05.trans le6)
  refine ca_llist hrl6.x (by rw [sizeLine_eq]; omega) fun r7 W7 hr7 le7 => ?_
  wtm_at "zgo"
  refine nw_tupW (by rw [sizeLine_eq]; simp) fun a8 W8 ha8 le8 => ?_
  have ht8 : TupW W8 a8 [.ref a6, .ref r7] := tupW_new ha8
  have le58 := le6.trans (le7.trans le8)
  wtm_at "zgo"
  refine ex_while (J := fun n m' W' X' => Ex4 fun dv rv done rest => And13 (n = rest.length) (done.length + rest.length ≤ rs.length) (Mono (done ++ rest)) (Le W5 W') (X' = X3) (RowsW W' dv done) (RowsW W' rv rest) (lawJoined N N.whs kn n done rest = lawJoined N N.whs kn rs.length [] rs) (m' "normal" = some (.ref x)) (m' "known" = some (.ref kl)) (m' "wholes" = some (.ref d)) (m' "done" = some dv) (m' "rest" = some rv)) rs.length
    ⟨.ref a6, .ref r7, [], rs, rfl, by simp, hm, le58, rfl, ⟨a6, [], rfl, lstW_new (le8 _ _ (le7 _ _ ha6)), .nil⟩, ⟨r7, rvs, rfl, hr7.up le8, hA.mono fun _ _ z => z.up (le05.trans le58)⟩, rfl, by wtm_at "zvr", by wtm_at "zvr", by wtm_at "zvr", by wtm_at "zvr", by wtm_at "zvr"⟩ ?_
  intro n m' W' X' g' T0 hT0 hJ4 Gq hGq
  obtain ⟨dv, rv, done, rest, rfl, hlr, hmono, le, rfl, hdv, hrv', hlaw, v1, v2, v3, v4, v5⟩ := hJ4
  have G' := G5.up le
  have le0 := le05.trans le
  have hn' := hn.up le0
  obtain ⟨rl', rvs', rfl, hrl', hA'⟩ := hrv'
  refine hGq _ ?_
  clear hGq Gq
  have hrl'l := hA'.length
  wtm_at "zgo"
  refine nw_lstW (by rw [sizeLine_eq]; simp) fun a9 W9 ha9 le9 => ?_
  refine co_ner ((hrl'.up le9).x) (hA'.mono fun _ _ z => z.up le9) (LstW.x (lstW_new ha9)) .nil hr'.eq ?_
  wtm_at "zgo"
  cases rest with
  | nil =>
    rw [decide_eq_false (not_not_intro rfl)]
    wtm_at "zgo"
    refine ⟨?_, rfl⟩
    rw [← hlaw]
    exact hdv.up le9
  | cons row rest =>
    rw [decide_eq_true (List.cons_ne_nil _ _)]
    refine und fun Gq hGq => ?_
    obtain ⟨dl, dvs, rfl, hdl, hdA⟩ := hdv
    refine hGq ?_
    clear hGq Gq
    have hdll := hdA.length
    cases hA' with
    | cons hrow hrest =>
    rename_i rwv rvs''
    simp only [List.length_cons] at hlr hrl'l
    refine und fun Gq hGq => ?_
    obtain ⟨ra, q1, q2, q3, q4, rfl, hra⟩ := (hrow.up le9).tupW
    refine hGq ?_
    clear hGq Gq
    wtm_at "zgo"
    intro sl W10 hsl le10
    refine su_slc (hrl'.up (le9.trans le10)).x hsl (IsPart.int _ _) IsPart.none (fun i e => by cases e; decide) (fun i e => by cases e) (by rw [sizeLine_eq]; simp; omega) (by with_unfolding_all rfl) fun r11 W11 h11 le11 => ?_
    have hl11 := lstW_new h11
    simp only [Option.elim, List.take_length, List.drop_one, List.tail_cons, show (1 : Int).toNat = 1 from rfl] at hl11
    wtm_at "zgo"
    refine nw_tupW (by rw [sizeLine_eq]; simp) fun a12 W12 ha12 le12 => ?_
    wtm_at "zgo"
    refine ⟨_, _, _, rfl, (tupW_new ha12).x, ?_⟩
    have le912 := le10.trans (le11.trans le12)
    have le012 := le9.trans le912
    have G12 := G'.up le012
    have hn12 := hn'.up le012
    have hdl12 := hdl.up le012
    have hrow12 := hra.up le912
    have hrest12 : LstW W12 r11 rvs'' := hl11.up le12
    wtm_at "zgo"
    refine ex_asgC ["spot"] (by with_unfolding_all rfl) (fun _ => rfl) (by with_unfolding_all rfl) (by decide) rfl (by decide) (cl2 rfl rfl) (cl2 ⟨rfl, rfl⟩ ⟨rfl, rfl⟩) ?_
    wtm_at "zgo"
    refine ca_len hdl12.x (by rw [sizeLine_eq]; omega) fun _ => ?_
    wtm_at "zgo"
    refine ca_range1 fun r13 W13 hr13 le13 => ?_
    have hn13 := hn12.up le13
    have hdl13 := hdl12.up le13
    have hdA13 := hdA.mono fun _ _ z => z.up (le012.trans le13)
    refine ⟨_, done.length, _, itr_rg hr'.hd hr13 (by omega) (by omega) (by omega) (by omega) (by omega), by rw [sizeLine_eq]; omega, fun j ys W2 X2 => Le W13 W2 ∧ X2 = X' ∧ IntsAre ys (((List.range j).filter fun i => decide (N.cl (done.getD i rwZ) = 0)).map fun (i : Nat) => (i : Int)), ⟨Le.refl _, rfl, .nil⟩, ?_, ?_⟩
    · intro Cn j ys v mi W2 X2 g2 hj hJ5 hle2 hag hJ6 hyl T1 hT1 Gq hGq
      obtain ⟨tj, rfl⟩ := hJ5
      obtain ⟨_, rfl, hI⟩ := hJ6
      have vd : mi "done" = some (.ref dl) := ag_get hag (by decide) rfl (by wtm_at "zvr")
      have vn : mi "normal" = some (.ref x) := ag_get hag (by decide) rfl (by wtm_at "zvr")
      have hg : done[j]? = some (done.getD j rwZ) := by rw [List.getD_eq_getElem?_getD, List.getElem?_eq_getElem hj]; rfl
      obtain ⟨dv, hdv, hdT⟩ := hdA13.get _ _ hg
      refine hGq _ _ ?_
      clear hGq Gq
      have G2 := (G12.up le13).up hle2
      have hrs : ((List.range (j + 1)).filter fun i => decide (N.cl (done.getD i rwZ) = 0)).map (fun (i : Nat) => (i : Int)) = ((List.range j).filter fun i => decide (N.cl (done.getD i rwZ) = 0)).map (fun (i : Nat) => (i : Int)) ++ if N.cl (done.getD j rwZ) = 0 then [(j : Int)] else [] := by
        rw [List.range_succ, List.filter_append, List.map_append]
        congr 1
        by_cases h : N.cl (done.getD j rwZ) = 0
        · rw [if_pos h]; simp only [List.filter, h, decide_true]; rfl
        · rw [if_neg h]; simp only [List.filter, h, decide_false]; rfl
      wtm_at "zgo"
      refine ts_one ?_
      wtm_at "zgo"
      refine su_lst (hdl13.up hle2).x (by omega) (by omega) (by rw [show ((0 : Int) + (j : Int)).toNat = j by omega]; exact hdv) (by with_unfolding_all rfl) ?_
      wtm_at "zgo"
      refine Tr.call0G (lawclass_spec G2 (hr'.le (by decide)) (hn13.up hle2) (hdT.up hle2)) fun Gq W3 v le3 hGq hK1 => ?_
      obtain ⟨t3, e3⟩ := hK1
      subst e3
      refine hGq _ ?_
      clear hGq Gq
      wtm_at "zgo"
      by_cases h0 : N.cl (done.getD j rwZ) = 0
      · refine ite_t (by rw [h0]; rfl) ?_
        wtm_at "zgo"
        refine ⟨hag.upd (by decide), hle2.trans le3, rfl, ?_⟩
        rw [hrs, if_pos h0, show (0 : Int) + (j : Int) = j by omega]
        exact ksk_snoc hI
      · refine ite_f (beq_eq_false_iff_ne.mpr h0) ?_
        wtm_at "zgo"
        refine ⟨hag.upd (by decide), hle2.trans le3, rfl, ?_⟩
        rw [hrs, if_neg h0, List.append_nil]
        exact hI
    intro a14 o14 lvs W14 X14 hle14 ho14 hyl14 hK2 ha14 hx14 Gq hGq
    obtain ⟨_, rfl, hI14⟩ := hK2
    refine hGq _ ?_
    clear hGq Gq
    intro g14
    refine Tr.freeze fun W15 hw15 le15 => ?_
    have hlet : IntsAre lvs ((letters N done).map fun (i : Nat) => (i : Int)) := hI14
    have hll : LstW W15 a14 lvs := ⟨o14, hw15, ho14⟩
    have le1315 := hle14.trans le15
    have le1215 := le13.trans le1315
    have G15 := G12.up le1215
    have hn15 := hn12.up le1215
    have hdl15 := hdl12.up le1215
    have hdA15 := hdA13.mono fun _ _ z => z.up le1315
    have hrow15 := hrow12.up le1215
    repeat' (wtm_at "znx")
    wtm_at "zev"
    rename_i t5
    repeat' (wtm_at "znx")
    refine Tr.cut (fun fl m3 W3 X3 => And11 (fl = .next) (Le W15 W3) (X3 = X14) ((∃ tw, m3 "whole" = some (.int (ljWhole N N.whs done row) tw))) (m3 "normal" = some (.ref x)) (m3 "known" = some (.ref kl)) (m3 "wholes" = some (.ref d)) (m3 "done" = some (.ref dl)) (m3 "rest" = some (.ref r11)) (m3 "row" = some (.ref ra)) (m3 "letters" = some (.ref a14))) ?_ ?_
    · wtm_at "zex"
      wtm_at "zgo"
      refine nw_lstW (by rw [sizeLine_eq]; simp) fun a16 W16 ha16 le16 => ?_
      refine co_nei (hll.up le16).x hlet (LstW.x (lstW_new ha16)) .nil hr'.eq ?_
      wtm_at "zgo"
      have G16 := G15.up le16
      have hdl16 := hdl15.up le16
      have hrow16 := hrow15.up le16
      rcases List.eq_nil_or_concat (letters N done) with hl0 | ⟨ls, s, hls⟩
      · rw [hl0]
        refine ite_f rfl ?_
        wtm_at "zgo"
        have : ljWhole N N.whs done row = 0 := by unfold ljWhole lastLet; rw [hl0]; rfl
        rw [this]
        exact ⟨rfl, le16, rfl, ⟨t5, by wtm_at "zvr"⟩, by wtm_at "zvr", by wtm_at "zvr", by wtm_at "zvr", by wtm_at "zvr", by wtm_at "zvr", by wtm_at "zvr", by wtm_at "zvr"⟩
      · rw [List.concat_eq_append] at hls
        have hlast : lastLet N done = some s := by unfold lastLet; rw [hls]; simp
        have hsm : s ∈ letters N done := by rw [hls]; simp
        have hsd : s < done.length := List.mem_range.mp (List.mem_filter.mp hsm).1
        rw [hls]
        refine ite_t (decide_eq_true (by simp)) ?_
        refine und fun Gq hGq => ?_
        obtain ⟨ds, hds⟩ : ∃ ds, done[s]? = some ds := ⟨_, List.getElem?_eq_getElem hsd⟩
        have hdz := getD_of (z := rwZ) hds
        obtain ⟨dsv, hdsv, hdsT⟩ := hdA15.get _ _ hds
        obtain ⟨da, d1, d2, d3, d4, rfl, hda⟩ := (hdsT.up le16).tupW
        refine hGq ?_
        clear hGq Gq
        rw [hls, List.map_append] at hlet
        obtain ⟨lv0, ts, rfl⟩ : ∃ lv0 ts, lvs = lv0 ++ [.int (s : Int) ts] := ints_unsnoc hlet
        have hll16 := hll.up le16
        wtm_at "zgo"
        by_cases hr0 : row.2.2.1 = 0
        · refine ite_t (by rw [hr0]; rfl) ?_
          wtm_at "zgo"
          refine su_lst hdl16.x (by omega) (by omega) (by rw [Int.toNat_natCast]; exact hdsv) (by with_unfolding_all rfl) ?_
          wtm_at "zgo"
          by_cases hd0 : ds.2.2.1 = 0
          · refine ite_t (by rw [hd0]; rfl) ?_
            wtm_at "zgo"
            refine ex_asgC ["one"] (by with_unfolding_all rfl) (fun _ => rfl) (by with_unfolding_all rfl) (by decide) rfl (by decide) (cl1 rfl) (cl1 ⟨rfl, rfl⟩) ?_
            wtm_at "zgo"
            intro sl17 W17 hsl17 le17
            refine su_slc (hdl16.up le17).x hsl17 (IsPart.int _ _) IsPart.none (fun i e => by cases e; omega) (fun i e => by cases e) (by rw [sizeLine_eq]; omega) (by with_unfolding_all rfl) fun r18 W18 h18 le18 => ?_
            have hl18 := lstW_new h18
            simp only [Option.elim] at hl18
            rw [List.take_of_length_le (Nat.le_refl _), show ((s : Int) + 1).toNat = s + 1 by omega] at hl18
            have le1618 := le17.trans le18
            have hdA18 := (hdA15.mono fun _ _ z => z.up (le16.trans le1618)).drop (s + 1)
            have hn18 := (hn15.up le16).up le1618
            have G18 := G16.up le1618
            have h18l := hdA18.length
            refine ⟨_, (dvs.drop (s + 1)).length, _, itr_list hr'.hd hl18, by rw [sizeLine_eq, List.length_drop]; omega, fun j ys W2 X2 => Le W18 W2 ∧ X2 = X14 ∧ IntsAre ys (((done.drop (s + 1)).take j).map N.cl), ⟨Le.refl _, rfl, .nil⟩, ?_, ?_⟩
            · intro Cn j ys v mi W2 X2 g2 hj hP hle2 hag hK3 hyl T1 hT1 Gq hGq
              obtain ⟨_, rfl, hI⟩ := hK3
              refine hGq _ _ ?_
              clear hGq Gq
              have vn : mi "normal" = some (.ref x) := ag_get hag (by decide) rfl (by wtm_at "zvr")
              obtain ⟨r, hrr, hT2⟩ := hdA18.get' _ _ hP
              have G2 := G18.up hle2
              wtm_at "zgo"
              refine ts_nil ?_
              refine ite_t rfl ?_
              wtm_at "zgo"
              refine Tr.call0G (lawclass_spec G2 (hr'.le (by decide)) (hn18.up hle2) (hT2.up hle2)) fun Gq W3 v le3 hGq hK4 => ?_
              obtain ⟨t3, e3⟩ := hK4
              subst e3
              refine hGq _ ?_
              clear hGq Gq
              wtm_at "zgo"
              refine ⟨hag.upd (by decide), hle2.trans le3, rfl, ?_⟩
              rw [List.take_add_one, hrr, List.map_append]
              exact ksk_snoc hI
            intro a19 o19 bvs W19 X19 hle19 ho19 hyl19 hK5 ha19 hx19 Gq hGq
            obtain ⟨_, rfl, hI19⟩ := hK5
            refine hGq _ ?_
            clear hGq Gq
            intro g19
            rw [List.take_of_length_le (by omega)] at hI19
            refine Tr.freeze fun W20 hw20 le20 => ?_
            have hbl : LstW W20 a19 bvs := ⟨o19, hw20, ho19⟩
            have le1820 := hle19.trans le20
            have le1620 := le1618.trans le1820
            have G20 := G16.up le1620
            wtm_at "zgo"
            refine Tr.call0G (lawclass_spec G20 (hr'.le (by decide)) (hn18.up le1820) (hrow.up (le012.trans (le1215.trans (le16.trans le1620))))) fun Gq W21 v le21 hGq hK6 => ?_
            obtain ⟨t21, e21⟩ := hK6
            subst e21
            refine hGq _ ?_
            clear hGq Gq
            have le1621 := le1620.trans le21
            have G21 := G16.up le1621
            have hbl21 := hbl.up le21
            have hrow21 := hrow16.up le1621
            have hll21 := hll16.up le1621
            have hdl21 := hdl16.up le1621
            have hda21 := hda.up le1621
            wtm_at "zex"
            wtm_at "zex"
            wtm_at "zex"
            wtm_at "zex"
            generalize hbs : (done.drop (s + 1)).map N.cl = bs at hI19
            have hljw : ljWhole N N.whs done row = (match bs.getLast? with
                | none => whoOf N.whs (ds.1, row.1)
                | some b => if b < N.cl row then whoOf N.whs (ds.1, row.1) else 0) := by
              unfold ljWhole; rw [hlast]; simp only [hdz]; rw [if_pos ⟨hr0, hd0⟩, hbs]
            refine Tr.cut (fun b m2 W2 X2 => And4 (b = (match bs.getLast? with | none => true | some b => decide (b < N.cl row))) (m2 = upd (upd (upd (upd (upd (upd m' "rest" (Value.ref r11)) "row" (Value.ref ra)) "letters" (Value.ref a14)) "whole" (Value.int 0 t5)) "between" (Value.ref a19)) "here" (Value.int (N.cl row) t21)) (Le W21 W2) (X2 = X19)) ?_ ?_
            · wtm_at "zgo"
              refine nw_lstW (by rw [sizeLine_eq]; simp) fun a22 W22 ha22 le22 => ?_
              refine co_eqi (hbl21.up le22).x hI19 (LstW.x (lstW_new ha22)) .nil hr'.eq ?_
              wtm_at "zgo"
              rcases List.eq_nil_or_concat bs with hb0 | ⟨bs0, b, hb⟩
              · subst hb0
                refine ite_t (decide_eq_true rfl) ?_
                exact ⟨rfl, rfl, le22, rfl⟩
              · rw [List.concat_eq_append] at hb
                subst hb
                refine ite_f (decide_eq_false (by simp)) ?_
                obtain ⟨bv0, tb, rfl⟩ := ints_unsnoc hI19
                have hbl22 := hbl21.up le22
                wtm_at "zgo"
                rw [List.getLast?_append]
                by_cases hlt : b < N.cl row
                · refine ite_t (decide_eq_true hlt) ?_
                  exact ⟨(decide_eq_true hlt).symm, rfl, le22, rfl⟩
                · refine ite_f (decide_eq_false hlt) ?_
                  wtm_at "zgo"
                  exact ⟨(decide_eq_false hlt).symm, rfl, le22, rfl⟩
            intro bb m2 W23 X23 hJ7 Gq hGq
            obtain ⟨rfl, rfl, le23, rfl⟩ := hJ7
            have le1623 := le1621.trans le23
            have hrow23 := hrow16.up le1623
            have hll23 := hll16.up le1623
            have hdl23 := hdl16.up le1623
            have hda23 := hda.up le1623
            have hw023 := hwho.up (le.trans (le012.trans (le1215.trans (le16.trans le1623))))
            obtain ⟨xs', hTw, hAw⟩ := hw023
            refine hGq _ _ _ _ ?_
            clear hGq Gq
            by_cases hcond : (match bs.getLast? with | none => true | some b => decide (b < N.cl row)) = true
            · have hljw2 : ljWhole N N.whs done row = whoOf N.whs (ds.1, row.1) := by
                rw [hljw]
                cases hgl : bs.getLast? with
                | none => rfl
                | some b =>
                  rw [hgl] at hcond
                  exact if_pos (of_decide_eq_true hcond)
              refine ite_t hcond ?_
              wtm_at "zgo"
              refine gm_tget hTw.any ?_
              wtm_at "zgo"
              refine su_lst hdl23.x (by omega) (by omega) (by rw [Int.toNat_natCast]; exact hdsv) (by with_unfolding_all rfl) ?_
              wtm_at "zgo"
              refine nw_tupW (by rw [sizeLine_eq]; simp) fun a24 W24 ha24 le24 => ?_
              wtm_at "zgo"
              rename_i t0
              refine ca_tget (by have := hr'.un; omega) (hTw.up le24).any (ks := [ds.1, row.1]) ⟨_, _, _, ha24, rfl, rfl, .cons (intKind_is PG w _ _) (.cons (intKind_is PG w _ _) .nil)⟩ ?_
              obtain ⟨t25, e25⟩ := whoW_get hAw (ds.1, row.1) t0
              rw [e25]
              wtm_at "zgo"
              refine ⟨rfl, le16.trans (le1623.trans le24), rfl, ⟨t25, ?_⟩, by wtm_at "zvr", by wtm_at "zvr", by wtm_at "zvr", by wtm_at "zvr", by wtm_at "zvr", by wtm_at "zvr", by wtm_at "zvr"⟩
              rw [hljw2]; exact upd_same
            · have hljw2 : ljWhole N N.whs done row = 0 := by
                rw [hljw]
                cases hgl : bs.getLast? with
                | none => rw [hgl] at hcond; exact absurd rfl hcond
                | some b =>
                  rw [hgl] at hcond
                  exact if_neg fun z => hcond (decide_eq_true z)
              refine ite_f (by simpa using hcond) ?_
              wtm_at "zgo"
              rw [hljw2]
              exact ⟨rfl, le16.trans le1623, rfl, ⟨t5, by wtm_at "zvr"⟩, by wtm_at "zvr", by wtm_at "zvr", by wtm_at "zvr", by wtm_at "zvr", by wtm_at "zvr", by wtm_at "zvr", by wtm_at "zvr"⟩
          · refine ite_f (beq_eq_false_iff_ne.mpr hd0) ?_
            wtm_at "zgo"
            have : ljWhole N N.whs done row = 0 := by unfold ljWhole; rw [hlast]; simp only [hdz]; rw [if_neg fun z => hd0 z.2]
            rw [this]
            exact ⟨rfl, le16, rfl, ⟨t5, by wtm_at "zvr"⟩, by wtm_at "zvr", by wtm_at "zvr", by wtm_at "zvr", by wtm_at "zvr", by wtm_at "zvr", by wtm_at "zvr", by wtm_at "zvr"⟩
        · refine ite_f (beq_eq_false_iff_ne.mpr hr0) ?_
          wtm_at "zgo"
          have : ljWhole N N.whs done row = 0 := by unfold ljWhole; rw [hlast]; simp only; rw [if_neg fun z => hr0 z.1]
          rw [this]
          exact ⟨rfl, le16, rfl, ⟨t5, by wtm_at "zvr"⟩, by wtm_at "zvr", by wtm_at "zvr", by wtm_at "zvr", by wtm_at "zvr", by wtm_at "zvr", by wtm_at "zvr", by wtm_at "zvr"⟩
    intro fl m3 W3 X3 hJ8 Gq hGq
    obtain ⟨rfl, le3, rfl, ⟨tw, w1⟩, w2, w3, w4, w5, w6, w7, w8⟩ := hJ8
    refine hGq _ _ _ _ ?_
    clear hGq Gq
    have le03' := le012.trans (le1215.trans le3)
    have G3 := G15.up le3
    have hkl3 := hkl.up (le0.trans le03')
    have hdl3 := hdl15.up le3
    have hdA3 := hdA15.mono fun _ _ z => z.up le3
    have hrow3 := hrow15.up le3
    have hrowT3 := hrow.up le03'
    have hrest3 := hrest12.up (le1215.trans le3)
    have hrestA3 := hrest.mono fun _ _ z => z.up le03'
    have hll3 := hll.up le3
    rw [List.length_cons, lawJoined] at hlaw
    have hxz : 0 < ljWhole N N.whs done row → ∃ s, lastLet N done = some s := fun h => by
      cases q : lastLet N done with
      | none => unfold ljWhole at h; rw [q] at h; exact absurd h (Int.lt_irrefl 0)
      | some s => exact ⟨s, rfl⟩
    generalize ljWhole N N.whs done row = xw at w1 hlaw hxz
    wtm_at "znx"
    wtm_at "znx"
    wtm_at "zex"
    refine Tr.cut (fun b m2 W2 X2 => And4 (b = decide (xw ∈ kn ∧ 0 < xw)) (m2 = m3) (W2 = W3) (X2 = X3)) ?_ ?_
    · wtm_at "zgo"
      refine co_in hkl3.x hki ?_
      wtm_at "zgo"
      by_cases hin : xw ∈ kn
      · refine ite_t (decide_eq_true hin) ?_
        wtm_at "zgo"
        by_cases hp : 0 < xw
        · refine ite_t (decide_eq_true hp) ?_
          wtm_at "zgo"
          exact ⟨(decide_eq_true ⟨hin, hp⟩).symm, rfl, rfl, rfl⟩
        · refine ite_f (decide_eq_false hp) ?_
          exact ⟨(decide_eq_false fun z => hp z.2).symm, rfl, rfl, rfl⟩
      · refine ite_f (decide_eq_false hin) ?_
        exact ⟨(decide_eq_false fun z => hin z.1).symm, rfl, rfl, rfl⟩
    intro bb m2 W2 X2 hJ9 Gq hGq
    obtain ⟨rfl, rfl, rfl, rfl⟩ := hJ9
    refine hGq _ _ _ _ ?_
    clear hGq Gq
    by_cases hc : xw ∈ kn ∧ 0 < xw
    · refine ite_t (decide_eq_true hc) ?_
      rw [if_pos hc] at hlaw
      obtain ⟨s, hs⟩ := hxz hc.2
      obtain ⟨ls, hls⟩ := List.getLast?_eq_some_iff.mp hs
      have hsm : s ∈ letters N done := by rw [hls]; simp
      have hsd : s < done.length := List.mem_range.mp (List.mem_filter.mp hsm).1
      rw [hls, List.map_append] at hlet
      refine und fun Gq hGq => ?_
      obtain ⟨lv0, ts, rfl⟩ : ∃ lv0 ts, lvs = lv0 ++ [.int (s : Int) ts] := ints_unsnoc hlet
      obtain ⟨ds, hds⟩ : ∃ ds, done[s]? = some ds := ⟨_, List.getElem?_eq_getElem hsd⟩
      obtain ⟨dsv, hdsv, hdsT⟩ := hdA3.get _ _ hds
      refine hGq ?_
      clear hGq Gq
      rw [hs, Option.getD_some] at hlaw
      wtm_at "zgo"
      refine nw_lstW (by rw [sizeLine_eq]; simp) fun a4 W4 ha4 le4 => ?_
      refine bo_addl (hdl3.up le4).x (LstW.x (lstW_new ha4)) (by rw [sizeLine_eq]; simp; omega) fun a5 W5' ha5 le5' => ?_
      wtm_at "zgo"
      refine bo_addl (LstW.x (lstW_new ha5)) (hrest3.up (le4.trans le5')).x (by rw [sizeLine_eq]; simp; omega) fun a6' W6' ha6' le6' => ?_
      have le36 := le4.trans (le5'.trans le6')
      have hdl6 := hdl3.up le36
      have hll6 := hll3.up le36
      wtm_at "zgo"
      refine su_lst hdl6.x (by omega) (by omega) (by rw [Int.toNat_natCast]; exact hdsv) (by with_unfolding_all rfl) ?_
      wtm_at "zgo"
      refine nw_lstW (by rw [sizeLine_eq]; simp) fun a7 W7' ha7 le7' => ?_
      have le37 := le36.trans le7'
      have G7 := G3.up le37
      have hall : RowsW W7' (.ref a6') (done ++ row :: rest) := ⟨a6', _, rfl, lstW_new (le7' _ _ ha6'), by
        have := (All2.append (hdA3.mono fun _ _ z => z.up le37) (.cons (hrowT3.up le37) .nil)).append (hrestA3.mono fun _ _ z => z.up le37)
        simpa using this⟩
      have hpair : RowsW W7' (.ref a7) [ds, row] := ⟨a7, _, rfl, lstW_new ha7, .cons (hdsT.up le37) (.cons (hrowT3.up le37) .nil)⟩
      wtm_at "zgo"
      refine Tr.call0G (lawmerged_spec G7 (hr'.le (by decide)) hall hpair nofun (by simp; omega) (by simp)) fun Gq W8' v le8' hGq hK7 => ?_
      obtain ⟨lo, hi, hsp, hms⟩ := hK7
      refine hGq _ ?_
      clear hGq Gq
      have hcs : clu (done ++ row :: rest) s = ds.2.1 := clu_of (by rw [List.getElem?_append_left hsd]; exact hds)
      have hcr : clu (done ++ row :: rest) done.length = row.2.1 := clu_of (by rw [List.getElem?_append_right (Nat.le_refl _), Nat.sub_self]; rfl)
      have hmm := hmono s done.length (by omega) (by simp)
      rw [hcs, hcr] at hmm
      obtain ⟨rfl, rfl⟩ : lo = ds.2.1 ∧ hi = row.2.1 := by
        refine und fun Gq hGq => ?_
        obtain ⟨s1, s2, s3, s4⟩ := hsp
        refine hGq ?_
        clear hGq Gq
        have e1 := s2 ds.2.1 (by simp)
        have e2 := s4 row.2.1 (by simp)
        simp at s1 s3
        omega
      have hjt := joinAt_len (rs := done ++ row :: rest) (s := s) (a := done.length) (x := xw) (by simp)
      have hjm := joinAt_mono (a := done.length) (x := xw) hmono (show s < (done ++ row :: rest).length by simp; omega)
      unfold joinAt at hlaw hjt hjm
      rw [hcs, hcr] at hlaw hjt hjm
      have hmsl : (mergedR (done ++ row :: rest) ds.2.1 row.2.1).length = done.length + (rest.length + 1) := by rw [merged_len]; simp
      generalize mergedR (done ++ row :: rest) ds.2.1 row.2.1 = ms at hlaw hjt hjm hms hmsl
      have e0 : (ms.set s (xw, (ms.getD s rwZ).2)).take done.length ++ (ms.set s (xw, (ms.getD s rwZ).2)).drop (done.length + 1) = (ms.take done.length).set s (xw, (ms.getD s rwZ).2) ++ ms.drop (done.length + 1) := by
        rw [List.take_set, List.drop_set_of_lt (by omega)]
      have hdl0 : ((ms.take done.length).set s (xw, (ms.getD s rwZ).2)).length = done.length := by rw [List.length_set, List.length_take]; omega
      rw [e0] at hlaw hjm
      rw [List.take_left' hdl0, List.drop_left' hdl0] at hlaw
      refine und fun Gq hGq => ?_
      obtain ⟨mb, mvs, rfl, hmb, hmA⟩ := hms
      have hmvl := hmA.length
      obtain ⟨mrs, hmr⟩ : ∃ r, ms[s]? = some r := ⟨_, List.getElem?_eq_getElem (by omega)⟩
      have hmz := getD_of (z := rwZ) hmr
      obtain ⟨mv, hmv, hmT⟩ := hmA.get _ _ hmr
      obtain ⟨ma, m1, m2', m3', m4, rfl, hma⟩ := hmT.tupW
      refine hGq ?_
      clear hGq Gq
      have le38 := le37.trans le8'
      have hdl8 := hdl3.up le38
      wtm_at "zgo"
      refine ca_len hdl8.x (by rw [sizeLine_eq]; omega) fun _ => ?_
      rw [hdll]
      wtm_at "zgo"
      intro sl9 W9' hsl9 le9'
      refine su_slcX (hmb.up le9').x hsl9 IsPart.none (IsPart.int _ _) (fun i e => by cases e) (fun i e => by cases e; omega) (by rw [sizeLine_eq]; omega) (by with_unfolding_all rfl) fun r10 h10a h10b => ?_
      simp only [Option.elim, Int.toNat_natCast, List.drop_zero]
      wtm_at "zgo"
      intro sl11 W11' hsl11 le11'
      refine su_slc (hmb.up (le9'.trans le11')).x hsl11 (IsPart.int _ _) IsPart.none (fun i e => by cases e; omega) (fun i e => by cases e) (by rw [sizeLine_eq]; omega) (by with_unfolding_all rfl) fun r12 W12' h12 le12' => ?_
      have hl12 := lstW_new h12
      simp only [Option.elim] at hl12
      rw [List.take_of_length_le (Nat.le_refl _), show ((done.length : Int) + 1).toNat = done.length + 1 by omega] at hl12
      wtm_at "zgo"
      refine nw_tupW (by rw [sizeLine_eq]; simp) fun a13 W13' ha13 le13' => ?_
      have ht13 : TupW W13' a13 [.ref r10, .ref r12] := tupW_new ha13
      have le813 := le9'.trans (le11'.trans (le12'.trans le13'))
      have hll13 := hll3.up (le38.trans le813)
      have hma13 := hma.up le813
      wtm_at "zgo"
      refine nw_tupW (by rw [sizeLine_eq]; simp) fun a14' W14' ha14' le14' => ?_
      have hll14 := hll13.up le14'
      have hma14 := hma13.up le14'
      have htk : (mvs.take done.length)[s]? = some (.ref ma) := by rw [List.getElem?_take_of_lt (by omega)]; exact hmv
      wtm_at "zgo"
      refine su_lst (⟨_, .inr (.head _), lstO _⟩ : LstX _ _ r10 (mvs.take done.length)) (by omega) (by omega +splitDisjunctions) (by rw [Int.toNat_natCast]; exact htk) (by with_unfolding_all rfl) ?_
      wtm_at "zgo"
      intro sl15 W15' hsl15 le15'
      refine su_sltA (a := 1) (hma14.up le15').x hsl15 (by decide) (by simp) (by simp) (by with_unfolding_all rfl) fun r16 W16' h16 le16' => ?_
      refine bo_addt (le16' _ _ (le15' _ _ ha14')) h16 (by simp) (by simp) (by rw [sizeLine_eq]; simp) fun r17 W17' h17 le17' => ?_
      have le1417 := le15'.trans (le16'.trans le17')
      have hll17 := hll14.up le1417
      wtm_at "zgo"
      refine si_lst (lstO _) (by omega) (by omega +splitDisjunctions) (by rw [List.length_take]; omega) fun o18 ho18 => ?_
      rw [Int.toNat_natCast] at ho18
      refine th_next ?_
      refine Tr.freeze fun W19 hw19 le19 => ?_
      wtm_at "zgo"
      have le819 := le813.trans (le14'.trans (le1417.trans le19))
      have hm19 := hmA.mono fun _ _ z => z.up le819
      have le1219 : Le W12' W19 := le13'.trans (le14'.trans (le1417.trans le19))
      refine ⟨rest.length, by simp, .ref r10, .ref r12, _, ms.drop (done.length + 1), by rw [List.length_drop]; omega, by rw [hdl0, List.length_drop]; omega, hjm, le.trans (le03'.trans (le38.trans le819)), rfl, ⟨r10, _, rfl, ⟨o18, hw19, ho18⟩, ?_⟩, ⟨r12, _, rfl, hl12.up le1219, hm19.drop (done.length + 1)⟩, hlaw, by wtm_at "zvr", by wtm_at "zvr", by wtm_at "zvr", by wtm_at "zvr", by wtm_at "zvr"⟩
      refine (hm19.take done.length).set s ⟨r17, tw, m2', m3', m4, rfl, ?_⟩
      rw [hmz]
      exact le19 _ _ h17
    · refine ite_f (decide_eq_false hc) ?_
      rw [if_neg hc] at hlaw
      wtm_at "zgo"
      refine nw_lstW (by rw [sizeLine_eq]; simp) fun a4 W4 ha4 le4 => ?_
      refine bo_addl (hdl3.up le4).x (LstW.x (lstW_new ha4)) (by rw [sizeLine_eq]; simp; omega) fun a5 W5' ha5 le5' => ?_
      have le35 := le4.trans le5'
      wtm_at "zgo"
      refine ⟨rest.length, by simp, .ref a5, .ref r11, done ++ [row], rest, rfl, by simp; omega, by rw [List.append_assoc]; exact hmono, le.trans (le03'.trans le35), rfl, ⟨a5, _, rfl, lstW_new ha5, All2.append (hdA3.mono fun _ _ z => z.up le35) (.cons (hrowT3.up le35) .nil)⟩, ⟨r11, rvs'', rfl, hrest3.up le35, hrestA3.mono fun _ _ z => z.up le35⟩, hlaw, by wtm_at "zvr", by wtm_at "zvr", by wtm_at "zvr", by wtm_at "zvr", by wtm_at "zvr"⟩
end
section -- F25
/-- the pen: its cells, where it stands -/
inductive Pen (W : Wd) (op : Obj) (k : Nat) : Prop
  | mk (c) (vc) (ns) (t1) (t2) (sd) (h1 : LstO op [.ref c, .int (k : Int) t1, .int sd t2]) (h2 : LstW W c vc) (h3 : IntsAre vc ns) (h4 : ns.length ≤ 1000) : Pen W op k
theorem Pen.up {W W' : Wd} {op : Obj} {k : Nat} (h : Pen W op k) (le : Le W W') : Pen W' op k := let ⟨c, vc, ns, t1, t2, sd, a, b, r, q⟩ := h; ⟨c, vc, ns, t1, t2, sd, a, b.up le, r, q⟩
theorem drawN_range {ns : List Int} {sd : Int} {k : Nat} {many : Int} (h : 0 < many) : 0 ≤ drawN ns sd k many ∧ drawN ns sd k many < many := by
  unfold drawN
  split
  · exact ⟨Int.fmod_nonneg_of_pos _ h, Int.fmod_lt_of_pos _ h⟩
  · exact ⟨Int.fmod_nonneg_of_pos _ h, Int.fmod_lt_of_pos _ h⟩
theorem drawp_spec {w : World} {A : Around} {W : Wd} {p : Addr} {op : Obj} {k : Nat} {tm : Tok} {many : Int} (G : GW w (Mine.hd.heap_1 w.params) W) (hr : Room A 1) (hP : Pen W op k) (hk : k ≤ 1000) (hm : 0 < many) :
    Cl PG w A W [(p, op)] (.ref 310) [.ref p, .int many tm] fun v W' X' => Ex3 fun d t o' => And5 (v = .int d t) (0 ≤ d) (d < many) (X' = [(p, o')]) (Pen W o' (k + 1)) := by
  refine und fun Gq hGq => ?_
  obtain ⟨c, vc, ns, t1, t2, sd, h1, h2, h3, h4⟩ := hP
  refine hGq ?_
  clear hGq Gq
  refine Cl.mono (draw_spec G hr h1 h2 h3 h4 hk hm) fun v W' X' ⟨t, u, o', e, h5, h6⟩ => ?_
  obtain ⟨r1, r2⟩ := drawN_range (ns := ns) (sd := sd) (k := k) hm
  exact ⟨_, t, o', e, r1, r2, h6, c, vc, ns, u, t2, sd, h5, h2, h3, h4⟩
/-- what _law_normal makes -/
structure NmGood (N : Nm) : Prop where
  ord : (N.parts.map (·.1)).Pairwise (· < ·)
  dist : (N.parts.map (·.2)).Nodup
  len : N.parts.length ≤ 5
  part : ∀ q ∈ N.parts, 30 ≤ q.1 ∧ q.1 < 1000 ∧ 0 < q.2.1 ∧ q.2.1 < 1000 ∧ 0 ≤ q.2.2 ∧ q.2.2 < 1000
  cls : ∀ q ∈ N.cls, q.1 < 30 ∧ 0 < q.2
theorem lawnormal_spec {w : World} {A : Around} {W : Wd} {X : Led} {p : Addr} {op : Obj} (G : GW w (Mine.hd.heap_1 w.params) W) (hr : Room A 4) (hP : Pen W op 0) :
    Cl PG w A W ((p, op) :: X) (.ref 315) [.ref p] fun v W' X' => Ex4 fun x N op' k => And6 (v = .ref x) (NormW PG w W' x N) (NmGood N) (X' = (p, op') :: X) (Pen W' op' k) (k ≤ 60) := by
  refine Cl.enter [("pen", .ref p)] G hr (by k_is) (by k_is) (fun s X S => by exact BindsTo.of_eq rfl) (by exact rfl) (by exact rfl) (by exact rfl) (by exact rfl) (by exact rfl) fun A' L g Q0 hr' hQ0 => ?_
  dsimp only [mB, List.foldl]
  wtm_at "zgo"
  refine ev_compP ["mark"] (fun _ => rfl) (by with_unfolding_all rfl) (by decide) rfl (by decide) (cl1 rfl) (cl1 ⟨rfl, rfl⟩) ?_
  wtm_at "zgo"
  refine ca_range2 fun r1 W1 hr1 le1 => ?_
  refine ⟨_, 4, _, itr_rg hr'.hd hr1 (by decide) (by decide) (by decide) (by decide) rfl, by rw [sizeLine_eq]; omega, fun j ys W2 X2 => Le W1 W2 ∧ ∃ op kvs qs, X2 = (p, op) :: X ∧ Pen W2 op j ∧ All2 (fun v (kv : Int × Value) => ∃ t, PairW W2 v (.int kv.1 t) kv.2) ys kvs ∧ All2 IntV kvs qs ∧ kvs.map (·.1) = (List.range j).map (fun (i : Nat) => 20 + (i : Int)) ∧ ∀ q ∈ qs, 0 < q.2, ⟨Le.refl _, op, [], [], rfl, hP.up le1, .nil, .nil, rfl, nofun⟩, ?_, ?_⟩
  · intro Cn j ys v mi W2 X2 g2 hj hJ1 hle2 hag hJ2 hyl T1 hT1 Gq hGq
    obtain ⟨tj, rfl⟩ := hJ1
    obtain ⟨_, op2, kvs, qs, rfl, hP2, hA, hI, hk, hq⟩ := hJ2
    refine hGq _ _ ?_
    clear hGq Gq
    have vp : mi "pen" = some (.ref p) := ag_get hag (by decide) rfl (by wtm_at "zvr")
    have G2 := (G.up le1).up hle2
    wtm_at "zgo"
    refine ts_nil ?_
    refine ite_t rfl ?_
    wtm_at "zgo"
    refine nw_lstW (by rw [sizeLine_eq]; simp) fun a3 W3 ha3 le3 => ?_
    have G3 := G2.up le3
    wtm_at "zgo"
    refine Tr.call1G (drawp_spec G3 (hr'.le (by decide)) (hP2.up le3) (by omega) (by decide)) fun Gq W4 v X4 le4 hGq hK1 => ?_
    obtain ⟨d, t4, o4, e1, hd0, hd1, e2, hP4⟩ := hK1
    subst e1; subst e2
    refine hGq _ _ ?_
    clear hGq Gq
    rename_i tt1 tt2 tt3 tt4 _
    refine und fun Gq hGq => ?_
    obtain ⟨y, ty, hy, hyp⟩ : ∃ y ty, ([Value.int 230 tt1, Value.int 220 tt2, Value.int 202 tt3, Value.int 230 tt4] : List Value)[d.toNat]? = some (.int y ty) ∧ 0 < y := by
      obtain ⟨n, rfl⟩ : ∃ n : Nat, d = n := ⟨d.toNat, by omega⟩
      match n, hd1 with
      | 0, _ => exact ⟨230, tt1, rfl, by decide⟩
      | 1, _ => exact ⟨220, tt2, rfl, by decide⟩
      | 2, _ => exact ⟨202, tt3, rfl, by decide⟩
      | 3, _ => exact ⟨230, tt4, rfl, by decide⟩
      | n + 4, h => exact absurd h (by omega)
    refine hGq ?_
    clear hGq Gq
    refine su_lst (LstW.x (lstW_new (le4 _ _ ha3))) hd0 (by omega) hy (by with_unfolding_all rfl) ?_
    wtm_at "zgo"
    refine nw_tupW (by rw [sizeLine_eq]; simp) fun a5 W5 ha5 le5 => ?_
    have le25 := le3.trans (le4.trans le5)
    wtm_at "zgo"
    refine ⟨hag.upd (by decide), hle2.trans le25, o4, kvs ++ [(20 + (j : Int), .int y ty)], qs ++ [(20 + (j : Int), y)], rfl, (hP4.up le4).up le5, (hA.mono fun _ _ z => let ⟨t, a, e, h⟩ := z; ⟨t, a, e, le25 _ _ h⟩).snoc ⟨_, a5, rfl, ha5⟩, hI.snoc ⟨rfl, ty, rfl⟩, ?_, ?_⟩
    · rw [List.map_append, hk, List.range_succ, List.map_append]; rfl
    · intro q hq'
      rcases List.mem_append.mp hq' with h | h
      · exact hq q h
      · rw [List.mem_singleton.mp h]; exact hyp
  intro a6 o6 ys6 W6 X6 hle6 ho6 hyl6 hJ3 ha6 hx6 Gq hGq
  obtain ⟨_, op6, kvs, qs, rfl, hP6, hA6, hI6, hk6, hq6⟩ := hJ3
  refine hGq _ ?_
  clear hGq Gq
  refine Tr.freeze fun W7 hw7 le7 => ?_
  wtm_at "zgo"
  have hl6 := hA6.length
  have hkl : kvs.length = 4 := by have := congrArg List.length hk6; simpa using this
  have le07 := le1.trans (hle6.trans le7)
  have G7 := G.up le07
  refine ca_dictI hr'.hd G7 ⟨_, rfl⟩ hw7 ho6 (by omega) hl6 (fun i v e => ?_) ?_ fun dc W8 hdc le8 => ?_
  · obtain ⟨kv, h1, t, a, e1, h2⟩ := hA6.get' _ _ e
    exact ⟨kv.1, t, kv.2, h1, a, e1, le7 _ _ h2⟩
  · rw [hk6]; decide
  have hcls : ∀ q ∈ qs, q.1 < 30 ∧ 0 < q.2 := fun q hq => by
    refine ⟨?_, hq6 q hq⟩
    refine und fun Gq hGq => ?_
    obtain ⟨i, hi⟩ := List.mem_iff_getElem?.mp hq
    obtain ⟨kv, hkv, hR, _⟩ := hI6.get _ _ hi
    refine hGq ?_
    clear hGq Gq
    have : kv.1 ∈ kvs.map (·.1) := List.mem_map_of_mem (List.mem_of_getElem? hkv)
    rw [hk6] at this
    obtain ⟨j, hj, e⟩ := List.mem_map.mp this
    have := List.mem_range.mp hj
    omega
  have le08 := le07.trans le8
  have G8 := G.up le08
  wtm_at "zgo"
  refine ev_dict0 G8 ⟨_, rfl⟩ fun d hd1 hd2 hd3 => ?_
  wtm_at "zgo"
  refine ex_for (fun _ => rfl) ?_
  wtm_at "zgo"
  refine Tr.callPG (Xp := [(p, op6)]) (Xr := (d, emptyD) :: X) (List.Perm.swap _ _ _) (drawp_spec G8 (hr'.le (by decide)) ((hP6.up le7).up le8) (by omega) (by decide)) fun Gq W9 v X9 le9 hGq hK2 => ?_
  obtain ⟨dn, t9, o9, e1, hd0, hd4, e2, hP9⟩ := hK2
  subst e1; subst e2
  refine hGq _ _ ?_
  clear hGq Gq
  obtain ⟨n, rfl⟩ : ∃ n : Nat, dn = n := ⟨dn.toNat, by omega⟩
  wtm_at "zgo"
  refine ca_range2 fun r10 W10 hr10 le10 => ?_
  have le010 := le08.trans (le9.trans le10)
  refine ⟨_, n + 1, _, itr_rg hr'.hd hr10 (by decide) (by decide) (by omega) (by omega) (by omega), fun i m' W' X' => Ex5 fun o op k kvs ps => And12 (X'.Perm ((d, o) :: (p, op) :: X)) (o.IsDictOf (intKind PG w) kvs) (All2 (PartV W') kvs ps) (ps.length ≤ i) ((ps.map (·.1)).Pairwise (· < ·)) ((ps.map (·.2)).Nodup) ((∀ q ∈ ps, 30 ≤ q.1 ∧ q.1 < 30 + (i : Int) ∧ 0 < q.2.1 ∧ q.2.1 < 1000 ∧ 0 ≤ q.2.2 ∧ q.2.2 < 1000)) (Pen W' op k) (k ≤ 10 + 5 * i) (m' "pen" = some (.ref p)) (m' "classes" = some (.ref dc)) (m' "parts" = some (.ref d)),
    ⟨emptyD, o9, 5, [], [], List.Perm.swap _ _ _, emptyD_is _ _, .nil, Nat.le_refl _, .nil, .nil, nofun, (hP9.up le9).up le10, by omega, by wtm_at "zvr", by wtm_at "zvr", by wtm_at "zvr"⟩, ?_, ?_⟩
  · intro i v m' W' X' g' T0 hT0 hii hJ4 hle hJ5 Gq hGq
    obtain ⟨ti, rfl⟩ := hJ4
    obtain ⟨o, op, k, kvs, ps, hpm, ho, hA, hlen, hord, hnd, hps, hPk, hk, v1, v2, v3⟩ := hJ5
    refine hGq _ _ ?_
    clear hGq Gq
    refine Tr.perm hpm ?_
    have G' := (G.up le010).up hle
    repeat' (wtm_at "znx")
    refine Tr.cut (fun v m2 W2 X2 => Ex4 fun f t op' k' => And8 (v = .int f t) (0 < f) (f < 1000) (m2 = upd m' "code" (.int (30 + (i : Int)) ti)) (Le W' W2) (X2.Perm ((d, o) :: (p, op') :: X)) (Pen W2 op' k') (k' ≤ k + 2)) ?_ ?_
    · wtm_at "zgo"
      by_cases h30 : (30 + (i : Int)) = 30
      · refine ite_t (by rw [h30]; rfl) ?_
        wtm_at "zgo"
        refine Tr.callPG (Xp := [(p, op)]) (Xr := (d, o) :: X) (List.Perm.swap _ _ _) (drawp_spec G' (hr'.le (by decide)) hPk (by omega) (by decide)) fun Gq W2 v X2 le2 hGq hK3 => ?_
        obtain ⟨q, t2, o2, e1, q0, q1, e2, hP2⟩ := hK3
        subst e1; subst e2
        refine hGq _ _ ?_
        clear hGq Gq
        wtm_at "zgo"
        exact ⟨_, _, o2, k + 1, rfl, by omega, by omega, rfl, le2, List.Perm.swap _ _ _, hP2.up le2, by omega⟩
      · refine ite_f (beq_eq_false_iff_ne.mpr h30) ?_
        wtm_at "zgo"
        refine Tr.callPG (Xp := [(p, op)]) (Xr := (d, o) :: X) (List.Perm.swap _ _ _) (drawp_spec G' (hr'.le (by decide)) hPk (by omega) (by decide)) fun Gq W2 v X2 le2 hGq hK4 => ?_
        obtain ⟨q, t2, o2, e1, q0, q1, e2, hP2⟩ := hK4
        subst e1; subst e2
        refine hGq _ _ ?_
        clear hGq Gq
        have G2 := G'.up le2
        wtm_at "zgo"
        by_cases hq : 0 < q
        · refine ite_t (decide_eq_true hq) ?_
          wtm_at "zgo"
          refine Tr.callPG (Xp := [(p, o2)]) (Xr := (d, o) :: X) (List.Perm.refl _) (drawp_spec G2 (hr'.le (by decide)) (hP2.up le2) (by omega) (by decide)) fun Gq W3 v X3 le3 hGq hK5 => ?_
          obtain ⟨r, t3, o3, e1, r0, r1, e2, hP3⟩ := hK5
          subst e1; subst e2
          refine hGq _ _ ?_
          clear hGq Gq
          wtm_at "zgo"
          exact ⟨_, _, o3, k + 2, rfl, by omega, by omega, rfl, le2.trans le3, List.Perm.swap _ _ _, (hP3.up le3), by omega⟩
        · refine ite_f (decide_eq_false hq) ?_
          wtm_at "zgo"
          exact ⟨_, _, o2, k + 1, rfl, by omega, by omega, rfl, le2, List.Perm.swap _ _ _, hP2.up le2, by omega⟩
    intro v m2 W2 X2 hJ6 Gq hGq
    obtain ⟨f, tf, op2, k2, rfl, f0, f1, rfl, le2, hpm2, hP2, hk2⟩ := hJ6
    refine hGq _ _ _ _ ?_
    clear hGq Gq
    refine Tr.perm hpm2 ?_
    have G2 := G'.up le2
    repeat' (wtm_at "znx")
    refine Tr.cut (fun v m2 W3 X3 => Ex4 fun s t op' k' => And8 (v = .int s t) (0 ≤ s) (s < 1000) (m2 = upd (upd m' "code" (.int (30 + (i : Int)) ti)) "first" (.int f tf)) (Le W2 W3) (X3.Perm ((d, o) :: (p, op') :: X)) (Pen W3 op' k') (k' ≤ k2 + 2)) ?_ ?_
    · wtm_at "zgo"
      refine Tr.callPG (Xp := [(p, op2)]) (Xr := (d, o) :: X) (List.Perm.swap _ _ _) (drawp_spec G2 (hr'.le (by decide)) hP2 (by omega) (by decide)) fun Gq W3 v X3 le3 hGq hK6 => ?_
      obtain ⟨q, t2, o2, e1, q0, q1, e2, hP3⟩ := hK6
      subst e1; subst e2
      refine hGq _ _ ?_
      clear hGq Gq
      have G3 := G2.up le3
      wtm_at "zgo"
      by_cases hq : q = 5
      · refine ite_t (by rw [hq]; rfl) ?_
        wtm_at "zgo"
        exact ⟨_, _, o2, k2 + 1, rfl, by decide, by decide, rfl, le3, List.Perm.swap _ _ _, hP3.up le3, by omega⟩
      · refine ite_f (beq_eq_false_iff_ne.mpr hq) ?_
        wtm_at "zgo"
        refine Tr.callPG (Xp := [(p, o2)]) (Xr := (d, o) :: X) (List.Perm.refl _) (drawp_spec G3 (hr'.le (by decide)) (hP3.up le3) (by omega) (by decide)) fun Gq W4 v X4 le4 hGq hK7 => ?_
        obtain ⟨r, t3, o3, e1, r0, r1, e2, hP4⟩ := hK7
        subst e1; subst e2
        refine hGq _ _ ?_
        clear hGq Gq
        wtm_at "zgo"
        exact ⟨_, _, o3, k2 + 2, rfl, by omega, by omega, rfl, le3.trans le4, List.Perm.swap _ _ _, (hP4.up le4), by omega⟩
    intro v m2 W3 X3 hJ7 Gq hGq
    obtain ⟨s, ts, op3, k3, rfl, s0, s1, rfl, le3, hpm3, hP3, hk3⟩ := hJ7
    refine hGq _ _ _ _ ?_
    clear hGq Gq
    refine Tr.perm hpm3 ?_
    have le23 := le2.trans le3
    have G3 := G'.up le23
    have hA3 := hA.mono fun _ _ z => z.up le23
    have hkv := hA3.length
    have hDX : ∀ {W}, DctX PG w W ((d, o) :: (p, op3) :: X) d kvs := ⟨hd1, o, .inr (.head _), ho⟩
    wtm_at "zgo"
    refine nw_tupW (by rw [sizeLine_eq]; simp) fun a4 W4 ha4 le4 => ?_
    wtm_at "zgo"
    refine gm_dval hDX ?_
    wtm_at "zgo"
    refine ca_dval hDX fun vw W5 hvw le5 => ?_
    have le45 := le4.trans le5
    have hkey : KeyW PG w W5 [f, s] a4 := ⟨_, _, _, le5 _ _ ha4, rfl, rfl, .cons (intKind_is PG w _ _) (.cons (intKind_is PG w _ _) .nil)⟩
    have hAq : All2 (fun (x : Int × Value) q => ∃ a, x.2 = .ref a ∧ KeyW PG w W5 q a) kvs (ps.map fun q => [q.2.1, q.2.2]) := by
      have : ∀ {kvs : List (Int × Value)} {ps : List (Int × Int × Int)}, All2 (PartV W3) kvs ps → All2 (fun (x : Int × Value) q => ∃ a, x.2 = .ref a ∧ KeyW PG w W5 q a) kvs (ps.map fun q => [q.2.1, q.2.2]) := by
        intro kvs ps h
        induction h with
        | nil => exact .nil
        | cons h r ih =>
          obtain ⟨a, e, hk⟩ := (h.2.up le45).key (prog := PG) (w := w)
          exact .cons ⟨a, e, hk⟩ ih
      exact this hA3
    refine co_ninV hr'.hd (by have := hr'.un; omega) hkey hvw hDX hAq ?_
    have hin : [f, s] ∈ ps.map (fun q => [q.2.1, q.2.2]) ↔ (f, s) ∈ ps.map (·.2) := by
      constructor
      · intro h
        obtain ⟨q, hq, e⟩ := List.mem_map.mp h
        simp only [List.cons.injEq, and_true] at e
        exact List.mem_map.mpr ⟨q, hq, Prod.ext e.1 e.2⟩
      · intro h
        obtain ⟨q, hq, e⟩ := List.mem_map.mp h
        exact List.mem_map.mpr ⟨q, hq, by rw [e]⟩
    wtm_at "zgo"
    by_cases hmem : (f, s) ∈ ps.map (·.2)
    · refine ite_f (by rw [decide_eq_true (hin.mpr hmem)]; rfl) ?_
      wtm_at "zgo"
      exact ⟨o, op3, k3, kvs, ps, List.Perm.refl _, ho, hA3.mono fun _ _ z => z.up le45, by omega, hord, hnd, fun q hq => by have := hps q hq; omega, hP3.up le45, by omega, by wtm_at "zvr", by wtm_at "zvr", by wtm_at "zvr"⟩
    · refine ite_t (by rw [decide_eq_false fun z => hmem (hin.mp z)]; rfl) ?_
      wtm_at "zgo"
      refine nw_tupW (by rw [sizeLine_eq]; simp) fun a6 W6 ha6 le6 => ?_
      wtm_at "zgo"
      refine si_dct hd1 ho (by omega) fun o7 ho7 => ?_
      have hnew : stored kvs (30 + (i : Int)) (.ref a6) = kvs ++ [(30 + (i : Int), .ref a6)] := by
        refine stored_absent (valueAt_none_of_not_mem fun hm => ?_) _
        rw [keys_of hA3] at hm
        obtain ⟨q, hq, e⟩ := List.mem_map.mp hm
        have := hps q hq
        omega
      rw [hnew] at ho7
      wtm_at "zgo"
      refine ⟨o7, op3, k3, _, ps ++ [(30 + (i : Int), f, s)], List.Perm.refl _, ho7, (hA3.mono fun _ _ z => z.up (le45.trans le6)).snoc ⟨rfl, a6, _, _, rfl, ha6⟩, by rw [List.length_append, List.length_singleton]; omega, ?_, ?_, ?_, hP3.up (le45.trans le6), by omega, by wtm_at "zvr", by wtm_at "zvr", by wtm_at "zvr"⟩
      · rw [List.map_append, List.pairwise_append]
        refine ⟨hord, List.pairwise_singleton _ _, fun x hx y hy => ?_⟩
        obtain ⟨q, hq, rfl⟩ := List.mem_map.mp hx
        rw [List.map_singleton, List.mem_singleton] at hy
        have := hps q hq
        subst hy
        show q.1 < 30 + (i : Int)
        omega
      · rw [List.map_append, List.nodup_append]
        refine ⟨hnd, by simp, fun x hx y hy => ?_⟩
        rw [List.map_singleton, List.mem_singleton] at hy
        subst hy
        intro e
        rw [e] at hx
        exact hmem hx
      · intro q hq
        rcases List.mem_append.mp hq with h | h
        · have := hps q h; omega
        · rw [List.mem_singleton.mp h]
          refine ⟨by show (30 : Int) ≤ 30 + i; omega, by show (30 + (i : Int)) < 30 + ((i + 1 : Nat) : Int); omega, f0, f1, s0, s1⟩
  · intro m' W' X' hle hJ8 Gq hGq
    obtain ⟨o, op, k, kvs, ps, hpm, ho, hA, hlen, hord, hnd, hps, hPk, hk, v1, v2, v3⟩ := hJ8
    refine hGq _ ?_
    clear hGq Gq
    refine Tr.perm hpm (Tr.freeze fun W11 hw11 le11 => ?_)
    have le011 := (le010.trans hle).trans le11
    have G11 := G.up le011
    have le811 := (le9.trans le10).trans (hle.trans le11)
    wtm_at "zgo"
    refine Tr.callPG (Xp := []) (List.Perm.refl _) (normmake_spec (N := ⟨qs, ps⟩) G11 (hr'.le (by decide)) ⟨hd1, o, hw11, ho⟩ (hA.mono fun _ _ z => z.up le11) (hdc.up le811) hI6) fun Gq W12 v X12 le12 hGq hK8 => ?_
    obtain ⟨x, e1, e2, hN⟩ := hK8
    subst e1; subst e2
    refine hGq _ _ ?_
    clear hGq Gq
    wtm_at "zgo"
    exact ⟨x, ⟨qs, ps⟩, op, k, rfl, hN, ⟨hord, hnd, by show ps.length ≤ 5; omega, fun q hq => by have := hps q hq; omega, hcls⟩, rfl, (hPk.up le11).up le12, by omega⟩
end
section -- F27
/-! the plain law, 1: taking apart -/
theorem apart_had {N : Nm} {kn : List Int} : ∀ (n : Nat) (best row : List Int), lawApart N kn (n + 1) best row = ((N.chain n row).reverse.find? fun row => row.all fun x => decide (x ∈ kn)).getD best
  | 0, best, row => by
    rw [lawApart, Nm.chain]
    cases N.split row <;> simp only [lawApart, List.reverse_cons, List.reverse_nil, List.nil_append, List.find?_cons, List.find?_nil] <;> cases (row.all fun x => decide (x ∈ kn)) <;> rfl
  | n + 1, best, row => by
    rw [lawApart, Nm.chain]
    cases N.split row with
    | none =>
      simp only [List.reverse_cons, List.reverse_nil, List.nil_append, List.find?_cons, List.find?_nil]
      cases (row.all fun x => decide (x ∈ kn)) <;> rfl
    | some r =>
      simp only
      rw [apart_had n, List.reverse_cons, List.find?_append]
      cases (N.chain n r).reverse.find? (fun row => row.all fun x => decide (x ∈ kn)) with
      | some z => rfl
      | none =>
        simp only [List.find?_cons, List.find?_nil]
        cases (row.all fun x => decide (x ∈ kn)) <;> rfl
noncomputable def lawRows (N : Nm) (kn : List Int) (rs : List Rw) : List Rw := rs.flatMap fun r => (if 0 < r.2.2.1 then [r.1] else lawApart N kn 9 [r.1] [r.1]).map fun c => (c, r.2)
theorem lawRows_eq (N : Nm) (kn : List Int) (rs : List Rw) : lawRows N kn rs = N.apartRows kn rs := by
  unfold lawRows Nm.apartRows
  congr 1
  funext r
  unfold Nm.apart1 Nm.had
  rw [apart_had 8]

/-! 2: the turns -/
theorem cl_merged {N : Nm} {rs : List Rw} {lo hi : Int} : (mergedR rs lo hi).map N.cl = rs.map N.cl := by
  unfold mergedR
  rw [List.map_map]
  exact List.map_congr_left fun r _ => by
    show N.cl (if _ then _ else _) = _
    split <;> rfl
theorem scan_run : ∀ (l : List Int) (k b : Nat), scan l k (some b) = ((b : Int), ((k + (l.takeWhile fun c => decide (0 < c)).length : Nat) : Int)) :: scan (l.drop ((l.takeWhile fun c => decide (0 < c)).length + 1)) (k + (l.takeWhile fun c => decide (0 < c)).length + 1) none
  | [], k, b => by simp [scan]
  | c :: l, k, b => by
    rw [scan, List.takeWhile_cons]
    by_cases h : 0 < c
    · rw [if_pos h, scan_run l (k + 1) b]
      simp only [h, decide_true, if_true, List.length_cons, List.drop_succ_cons]
      rw [show k + 1 + (l.takeWhile fun c => decide (0 < c)).length = k + ((l.takeWhile fun c => decide (0 < c)).length + 1) by omega]
    · rw [if_neg h]
      simp [h]
theorem scan_step {cs : List Int} {a q : Nat} (ha : a < cs.length) (hq : ((cs.drop a).takeWhile fun c => decide (0 < c)).length = q) : scan (cs.drop a) a none = (if q = 0 then [] else [((a : Int), ((a + q : Nat) : Int))]) ++ scan (cs.drop (a + q + 1)) (a + q + 1) none := by
  rw [List.drop_eq_getElem_cons ha] at hq ⊢
  rw [List.takeWhile_cons] at hq
  rw [scan]
  by_cases h : 0 < cs[a]
  · simp only [h, decide_true, if_true, List.length_cons] at hq
    rw [if_pos h, scan_run, if_neg (by omega), List.drop_drop]
    subst hq
    generalize ((cs.drop (a + 1)).takeWhile fun c => decide (0 < c)).length = z
    rw [show a + 1 + z = a + (z + 1) by omega, show a + 1 + (z + 1) = a + (z + 1) + 1 by omega]; rfl
  · simp only [h, decide_false] at hq
    have hq : q = 0 := by simpa using hq.symm
    subst hq
    rw [if_neg h, if_pos rfl]; rfl
theorem ordK_nil : ordK [] = [] := ordK_of ⟨List.Perm.refl _, .nil⟩
theorem turnC_same {cs : List Int} {ts : List Rw} {a : Nat} : turnC cs ts ((a : Int), (a : Int)) = ts := by
  unfold turnC
  rw [if_pos]
  have : (cs.take (a : Int).toNat).drop (a : Int).toNat = [] := List.drop_eq_nil_of_le (by rw [List.length_take]; exact Nat.min_le_left _ _)
  simp only [this, ordK_nil, Nat.sub_self]; rfl
theorem turnC_congr {cs ds : List Int} {ts : List Rw} {b e : Nat} (h : (cs.take e).drop b = (ds.take e).drop b) : turnC cs ts ((b : Int), (e : Int)) = turnC ds ts ((b : Int), (e : Int)) := by
  unfold turnC
  simp only [Int.toNat_natCast]
  rw [h]
theorem turnC_len {cs : List Int} {ts : List Rw} {b e : Nat} (hbe : b ≤ e) (he : e ≤ ts.length) (hl : cs.length = ts.length) : (turnC cs ts ((b : Int), (e : Int))).length = ts.length ∧ ∀ (N : Nm) (k : Nat), e ≤ k → ((turnC cs ts ((b : Int), (e : Int))).map N.cl)[k]? = (ts.map N.cl)[k]? := by
  obtain ⟨os, ho⟩ := exists_ord ((cs.take e).drop b)
  unfold turnC
  simp only [Int.toNat_natCast]
  rw [ordK_of ho]
  split
  · exact ⟨rfl, fun _ _ _ => rfl⟩
  have hol : os.length = e - b := by
    rw [ho.1.length_eq]; simp only [idK, List.length_map, List.length_range]; rw [slice_len (by omega)]
  have hml : (mergedR ts (clu ts b) (clu ts (e - 1))).length = ts.length := merged_len
  refine ⟨?_, fun N k hk => ?_⟩
  · simp only [List.length_append, List.length_take, List.length_map, List.length_drop, hml, hol]; omega
  · rw [List.map_append, List.getElem?_append_right (by simp only [List.length_map, List.length_append, List.length_take, hml, hol]; omega)]
    simp only [List.length_map, List.length_append, List.length_take, hml, hol]
    rw [List.map_drop, cl_merged, List.getElem?_drop]
    congr 1
    omega
theorem turned_eq {N : Nm} {cs : List Int} : ∀ (n : Nat) (ts : List Rw) (a : Nat), ts.length = cs.length → (∀ k, a ≤ k → (ts.map N.cl)[k]? = cs[k]?) → cs.length + 1 ≤ n + a → lawTurned N n ts a = (scan (cs.drop a) a none).foldl (turnC cs) ts
  | 0, ts, a, hl, hc, hn => by
    rw [lawTurned, List.drop_eq_nil_of_le (by omega)]; rfl
  | n + 1, ts, a, hl, hc, hn => by
    rw [lawTurned]
    by_cases ha : a < ts.length
    · rw [if_pos ha]
      have hd : (ts.drop a).map N.cl = cs.drop a := by
        rw [List.map_drop]
        apply List.ext_getElem?
        intro k
        rw [List.getElem?_drop, List.getElem?_drop]
        exact hc _ (by omega)
      have hq : ((ts.drop a).takeWhile fun r => decide (0 < N.cl r)).length = ((cs.drop a).takeWhile fun c => decide (0 < c)).length := by
        rw [← hd, List.takeWhile_map, List.length_map]; rfl
      rw [hq]
      have hqle := (List.takeWhile_prefix (l := cs.drop a) (fun c => decide (0 < c))).length_le
      rw [List.length_drop] at hqle
      have hsc := scan_step (cs := cs) (a := a) (by omega) rfl
      generalize ((cs.drop a).takeWhile fun c => decide (0 < c)).length = q at hsc hqle ⊢
      have hcg : turnC (ts.map N.cl) ts ((a : Int), ((a + q : Nat) : Int)) = turnC cs ts ((a : Int), ((a + q : Nat) : Int)) := turnC_congr (by
        apply List.ext_getElem?
        intro k
        rcases Nat.lt_or_ge k (a + q - a) with h | h
        · rw [slice_get h, slice_get h]; exact hc _ (by omega)
        · rw [List.getElem?_eq_none (by simp; omega), List.getElem?_eq_none (by simp; omega)])
      rw [hcg, hsc, List.foldl_append]
      obtain ⟨h1, h2⟩ := turnC_len (cs := cs) (ts := ts) (b := a) (e := a + q) (by omega) (by omega) (by omega)
      have ih := turned_eq (N := N) (cs := cs) n (turnC cs ts ((a : Int), ((a + q : Nat) : Int))) (a + q + 1) (by rw [h1]; exact hl) (fun k hk => by rw [h2 N k (by omega)]; exact hc k (by omega)) (by omega)
      rw [ih]
      by_cases h0 : q = 0
      · subst h0
        rw [if_pos rfl, Nat.add_zero, turnC_same]; rfl
      · rw [if_neg h0]; rfl
    · rw [if_neg ha, List.drop_eq_nil_of_le (by omega)]; rfl
theorem lawTurned_eq {N : Nm} (rs : List Rw) : lawTurned N (rs.length + 1) rs 0 = orderRows N rs := by
  unfold orderRows
  rw [markRuns_scan, turned_eq (cs := rs.map N.cl) (rs.length + 1) rs 0 (by simp) (fun _ _ => rfl) (by simp)]
  rfl
end
section -- F28
/-! the plain law, 3: joining -/
noncomputable def lettersC (cs : List Int) : List Nat := (List.range cs.length).filter fun i => decide (cs.getD i 0 = 0)
noncomputable def lastZ (cs : List Int) : Option Nat := (lettersC cs).getLast?
noncomputable def lastC (cs : List Int) : Int := cs.getLast?.getD 0
theorem getD_map {N : Nm} {done : List Rw} {i : Nat} (h : i < done.length) : (done.map N.cl).getD i 0 = N.cl (done.getD i rwZ) := by
  rw [List.getD_eq_getElem?_getD, List.getD_eq_getElem?_getD, List.getElem?_map, List.getElem?_eq_getElem h]; rfl
theorem letters_map (N : Nm) (done : List Rw) : letters N done = lettersC (done.map N.cl) := by
  unfold letters lettersC
  rw [List.length_map]
  refine List.filter_congr fun i hi => ?_
  rw [getD_map (List.mem_range.mp hi)]
theorem lastLet_map (N : Nm) (done : List Rw) : lastLet N done = lastZ (done.map N.cl) := by unfold lastLet lastZ; rw [letters_map]
theorem lettersC_snoc (cs : List Int) (c : Int) : lettersC (cs ++ [c]) = lettersC cs ++ if c = 0 then [cs.length] else [] := by
  unfold lettersC
  rw [List.length_append, List.length_singleton, List.range_succ, List.filter_append]
  congr 1
  · refine List.filter_congr fun i hi => ?_
    have := List.mem_range.mp hi
    rw [List.getD_eq_getElem?_getD, List.getD_eq_getElem?_getD, List.getElem?_append_left this]
  · have : (cs ++ [c]).getD cs.length 0 = c := by rw [List.getD_eq_getElem?_getD, List.getElem?_append_right (Nat.le_refl _), Nat.sub_self]; rfl
    by_cases h : c = 0
    · rw [if_pos h]
      show (match decide ((cs ++ [c]).getD cs.length 0 = 0) with | true => [cs.length] | false => []) = [cs.length]
      rw [this, decide_eq_true h]
    · rw [if_neg h]
      show (match decide ((cs ++ [c]).getD cs.length 0 = 0) with | true => [cs.length] | false => []) = []
      rw [this, decide_eq_false h]
theorem lastZ_snoc (cs : List Int) (c : Int) : lastZ (cs ++ [c]) = if c = 0 then some cs.length else lastZ cs := by
  unfold lastZ
  rw [lettersC_snoc]
  by_cases h : c = 0
  · rw [if_pos h, if_pos h, List.getLast?_append]; rfl
  · rw [if_neg h, if_neg h, List.append_nil]
theorem lastC_snoc (cs : List Int) (c : Int) : lastC (cs ++ [c]) = c := by unfold lastC; rw [List.getLast?_append]; rfl
theorem lastZ_spec : ∀ (n : Nat) (cs : List Int) (s : Nat), cs.length = n → lastZ cs = some s → s < cs.length ∧ cs.getD s 0 = 0 ∧ ∀ k, s < k → k < cs.length → cs.getD k 0 ≠ 0
  | 0, cs, s, hn, h => by
    rw [List.length_eq_zero_iff] at hn
    subst hn
    cases h
  | n + 1, cs, s, hn, h => by
    rcases List.eq_nil_or_concat cs with hc | ⟨ds, c, hc⟩
    · subst hc; cases hn
    · rw [List.concat_eq_append] at hc
      subst hc
      rw [List.length_append, List.length_singleton] at hn ⊢
      rw [lastZ_snoc] at h
      have hl : ∀ k, k < ds.length → (ds ++ [c]).getD k 0 = ds.getD k 0 := fun k hk => by rw [List.getD_eq_getElem?_getD, List.getD_eq_getElem?_getD, List.getElem?_append_left hk]
      have hr : (ds ++ [c]).getD ds.length 0 = c := by rw [List.getD_eq_getElem?_getD, List.getElem?_append_right (Nat.le_refl _), Nat.sub_self]; rfl
      split at h
      · rename_i hc0
        cases h
        exact ⟨by omega, by rw [hr]; exact hc0, fun k h1 h2 => by omega⟩
      · rename_i hc0
        obtain ⟨h1, h2, h3⟩ := lastZ_spec n ds s (by omega) h
        refine ⟨by omega, by rw [hl s h1]; exact h2, fun k k1 k2 => ?_⟩
        rcases Nat.lt_or_ge k ds.length with hk | hk
        · rw [hl k hk]; exact h3 k k1 hk
        · obtain rfl : k = ds.length := by omega
          rw [hr]; exact hc0
theorem lastC_at {cs : List Int} (h : 0 < cs.length) : lastC cs = cs.getD (cs.length - 1) 0 := by
  unfold lastC
  rw [List.getLast?_eq_getElem?, List.getD_eq_getElem?_getD]
/-- the whole that both ask for -/
noncomputable def baseW (N : Nm) (ws : List ((Int × Int) × Int)) (done : List Rw) (row : Rw) : Int := ljWhole N ws done row
theorem wholes_agree {N : Nm} {ws : List ((Int × Int) × Int)} {kn : List Int} {done rest : List Rw} {row : Rw} (hg : ∀ r ∈ done ++ row :: rest, 0 ≤ r.2.2.1) :
    ptWhole N ws kn (done ++ row :: rest) (lastLet N done) (lastC (done.map N.cl)) done.length = if 0 < ljWhole N ws done row ∧ ljWhole N ws done row ∈ kn then ljWhole N ws done row else 0 := by
  have hrow : (done ++ row :: rest).getD done.length rwZ = row := by rw [List.getD_eq_getElem?_getD, List.getElem?_append_right (Nat.le_refl _), Nat.sub_self]; rfl
  have hgr := hg row (by simp)
  unfold ptWhole ljWhole
  rw [hrow]
  cases hs : lastLet N done with
  | none =>
    show (0 : Int) = if 0 < (0 : Int) ∧ (0 : Int) ∈ kn then 0 else 0
    split <;> rfl
  | some s =>
    rw [lastLet_map] at hs
    obtain ⟨h1, h2, h3⟩ := lastZ_spec _ _ _ rfl hs
    rw [List.length_map] at h1
    have hsd : (done ++ row :: rest).getD s rwZ = done.getD s rwZ := by rw [List.getD_eq_getElem?_getD, List.getD_eq_getElem?_getD, List.getElem?_append_left h1]
    have hgs := hg (done.getD s rwZ) (List.mem_append_left _ (by rw [List.getD_eq_getElem?_getD, List.getElem?_eq_getElem h1]; exact List.getElem_mem h1))
    simp only
    rw [hsd]
    generalize hD : done.getD s rwZ = D at hgs
    have hbt : ((done.drop (s + 1)).map N.cl).getLast? = if done.length ≤ s + 1 then none else (done.map N.cl).getLast? := by
      rw [List.map_drop, List.getLast?_drop, List.length_map]
    rw [hbt]
    have hlc := lastC_at (cs := done.map N.cl) (by rw [List.length_map]; omega)
    rw [List.length_map] at hlc
    by_cases hgl : row.2.2.1 = 0 ∧ D.2.2.1 = 0
    · rw [if_pos hgl]
      have hj : joinOf ws kn D row = if 0 < whoOf ws (D.1, row.1) ∧ whoOf ws (D.1, row.1) ∈ kn then whoOf ws (D.1, row.1) else 0 := by
        unfold joinOf; rw [if_neg (by omega)]
      rw [hj]
      by_cases hb : done.length ≤ s + 1
      · have hz : lastC (done.map N.cl) = 0 := by
          rw [hlc, show done.length - 1 = s by omega]; exact h2
        rw [if_pos hb, hz, if_neg (by simp)]
      · have hne : lastC (done.map N.cl) ≠ 0 := by
          rw [hlc]; exact h3 _ (by omega) (by rw [List.length_map]; omega)
        rw [if_neg hb]
        have hgl2 : (done.map N.cl).getLast? = some (lastC (done.map N.cl)) := by
          unfold lastC
          rw [List.getLast?_eq_getElem?, List.length_map, List.getElem?_eq_getElem (by rw [List.length_map]; omega)]; rfl
        rw [hgl2]
        by_cases hlt : lastC (done.map N.cl) < N.cl row
        · simp only [if_pos hlt]
          rw [if_neg (by omega)]
        · simp only [if_neg hlt]
          rw [if_pos ⟨hne, by omega⟩]
          simp
    · rw [if_neg hgl]
      have hj : joinOf ws kn D row = 0 := by unfold joinOf; rw [if_pos (by omega)]
      rw [hj]
      simp
theorem joined_eq {N : Nm} {ws : List ((Int × Int) × Int)} {kn : List Int} (hw : ∀ y ∈ ws, N.classOf y.2 = 0) : ∀ (n : Nat) (done rest : List Rw), rest.length = n → (∀ r ∈ done ++ rest, 0 ≤ r.2.2.1) →
    ptLoop N ws kn n (done ++ rest) (lastLet N done) (lastC (done.map N.cl)) done.length = lawJoined N ws kn n done rest
  | 0, done, rest, hn, hg => by
    rw [List.length_eq_zero_iff] at hn
    subst hn
    rw [ptLoop, lawJoined, List.append_nil]
  | n + 1, done, [], hn, hg => by cases hn
  | n + 1, done, row :: rest, hn, hg => by
    rw [List.length_cons] at hn
    have hrow : (done ++ row :: rest).getD done.length rwZ = row := by rw [List.getD_eq_getElem?_getD, List.getElem?_append_right (Nat.le_refl _), Nat.sub_self]; rfl
    have hrg : (done ++ row :: rest)[done.length]? = some row := by rw [List.getElem?_append_right (Nat.le_refl _), Nat.sub_self]; rfl
    have hag := wholes_agree (N := N) (ws := ws) (kn := kn) hg
    rw [ptLoop, lawJoined, hag, hrow]
    have hx0 : 0 < ljWhole N ws done row → N.classOf (ljWhole N ws done row) = 0 ∧ row.2.2.1 = 0 ∧ ∃ s, lastLet N done = some s ∧ (done.getD s rwZ).2.2.1 = 0 := fun h => by
      cases hs : lastLet N done with
      | none => unfold ljWhole at h; rw [hs] at h; exact absurd h (Int.lt_irrefl 0)
      | some s =>
        have hor : (ljWhole N ws done row = whoOf ws ((done.getD s rwZ).1, row.1) ∨ ljWhole N ws done row = 0) ∧ (row.2.2.1 = 0 ∧ (done.getD s rwZ).2.2.1 = 0 ∨ ljWhole N ws done row = 0) := by
          unfold ljWhole
          rw [hs]
          simp only
          by_cases hgl : row.2.2.1 = 0 ∧ (done.getD s rwZ).2.2.1 = 0
          · rw [if_pos hgl]
            refine ⟨?_, .inl hgl⟩
            cases ((done.drop (s + 1)).map N.cl).getLast? with
            | none => exact .inl rfl
            | some b =>
              simp only
              split
              · exact .inl rfl
              · exact .inr rfl
          · rw [if_neg hgl]
            exact ⟨.inr rfl, .inr rfl⟩
        obtain ⟨o1, o2⟩ := hor
        have e1 : ljWhole N ws done row = whoOf ws ((done.getD s rwZ).1, row.1) := o1.resolve_right (by omega)
        obtain ⟨g1, g2⟩ := o2.resolve_right (by omega)
        refine ⟨?_, g1, s, rfl, g2⟩
        rw [e1] at h ⊢
        unfold whoOf at h ⊢
        cases q : ws.find? (fun y => decide (y.1 = ((done.getD s rwZ).1, row.1))) with
        | none => rw [q] at h; exact absurd h (Int.lt_irrefl 0)
        | some y => exact hw y (List.mem_of_find?_eq_some q)
    generalize ljWhole N ws done row = x at hx0 ⊢
    by_cases hc : 0 < x ∧ x ∈ kn
    · rw [if_pos hc, if_pos hc.1, if_pos ⟨hc.2, hc.1⟩]
      refine und fun Gq hGq => ?_
      obtain ⟨hcx, hg1, s, hs, hg2⟩ := hx0 hc.1
      refine hGq ?_
      clear hGq Gq
      have hs' := hs
      rw [lastLet_map] at hs'
      obtain ⟨h1, h2, h3⟩ := lastZ_spec _ _ _ rfl hs'
      rw [List.length_map] at h1
      rw [hs, Option.getD_some]
      have hml : (mergedR (done ++ row :: rest) (clu (done ++ row :: rest) s) (clu (done ++ row :: rest) done.length)).length = done.length + (rest.length + 1) := by rw [merged_len]; simp
      have hmc : (mergedR (done ++ row :: rest) (clu (done ++ row :: rest) s) (clu (done ++ row :: rest) done.length)).map N.cl = (done ++ row :: rest).map N.cl := cl_merged
      have hmg : ∀ k, ((mergedR (done ++ row :: rest) (clu (done ++ row :: rest) s) (clu (done ++ row :: rest) done.length)).getD k rwZ).2.2.1 = ((done ++ row :: rest).getD k rwZ).2.2.1 := fun k => by
        unfold mergedR
        rw [List.getD_eq_getElem?_getD, List.getD_eq_getElem?_getD, List.getElem?_map]
        cases (done ++ row :: rest)[k]? with
        | none => rfl
        | some r => simp only [Option.map_some, Option.getD_some]; split <;> rfl
      have hmg' : ∀ r ∈ mergedR (done ++ row :: rest) (clu (done ++ row :: rest) s) (clu (done ++ row :: rest) done.length), 0 ≤ r.2.2.1 := fun r hr => by
        obtain ⟨r', hr', rfl⟩ := List.mem_map.mp hr
        have := hg r' hr'
        split <;> exact this
      have hja : joinAt (done ++ row :: rest) s done.length x = ((mergedR (done ++ row :: rest) (clu (done ++ row :: rest) s) (clu (done ++ row :: rest) done.length)).take done.length).set s (x, ((mergedR (done ++ row :: rest) (clu (done ++ row :: rest) s) (clu (done ++ row :: rest) done.length)).getD s rwZ).2) ++
          (mergedR (done ++ row :: rest) (clu (done ++ row :: rest) s) (clu (done ++ row :: rest) done.length)).drop (done.length + 1) := by
        unfold joinAt
        rw [List.take_set, List.drop_set_of_lt (by omega)]
      rw [hja]
      have hgs := hmg s
      generalize mergedR (done ++ row :: rest) (clu (done ++ row :: rest) s) (clu (done ++ row :: rest) done.length) = ms at hml hmc hmg' hgs ⊢
      have hsd : (done ++ row :: rest).getD s rwZ = done.getD s rwZ := by rw [List.getD_eq_getElem?_getD, List.getD_eq_getElem?_getD, List.getElem?_append_left h1]
      rw [hsd, hg2] at hgs
      have hdl0 : ((ms.take done.length).set s (x, (ms.getD s rwZ).2)).length = done.length := by rw [List.length_set, List.length_take]; omega
      rw [List.take_left' hdl0, List.drop_left' hdl0]
      have hcl : ((ms.take done.length).set s (x, (ms.getD s rwZ).2)).map N.cl = done.map N.cl := by
        have hx : N.cl (x, (ms.getD s rwZ).2) = 0 := by
          unfold Nm.cl
          rw [if_neg (by show ¬ 0 < (ms.getD s rwZ).2.2.1; omega)]; exact hcx
        have e1 : (ms.take done.length).map N.cl = done.map N.cl := by
          rw [List.map_take, hmc, List.map_append, List.take_left' (List.length_map ..)]
        rw [List.map_set, e1, hx]
        apply List.ext_getElem?
        intro k
        rw [List.getElem?_set]
        split
        · rename_i e; subst e
          rw [List.getD_eq_getElem?_getD, List.getElem?_eq_getElem (by rw [List.length_map]; exact h1)] at h2
          simp only [Option.getD_some] at h2
          rw [if_pos (by rw [List.length_map]; exact h1), List.getElem?_eq_getElem (by rw [List.length_map]; exact h1), h2]
        · rfl
      have ih := joined_eq (kn := kn) hw n ((ms.take done.length).set s (x, (ms.getD s rwZ).2)) (ms.drop (done.length + 1)) (by rw [List.length_drop, hml]; omega) (fun r hr => by
        rcases List.mem_append.mp hr with h | h
        · rcases List.mem_or_eq_of_mem_set h with h | h
          · exact hmg' r (List.mem_of_mem_take h)
          · rw [h]; show 0 ≤ (ms.getD s rwZ).2.2.1; omega
        · exact hmg' r (List.mem_of_mem_drop h))
      rw [lastLet_map, hcl, hdl0, ← lastLet_map, hs] at ih
      exact ih
    · rw [if_neg hc, if_neg (Int.lt_irrefl 0), if_neg (show ¬ (x ∈ kn ∧ 0 < x) from fun z => hc ⟨z.2, z.1⟩)]
      have ih := joined_eq (kn := kn) hw n (done ++ [row]) rest (by omega) (by rw [List.append_assoc]; exact hg)
      rw [lastLet_map, List.map_append, List.map_singleton, lastZ_snoc, lastC_snoc, List.length_append, List.length_singleton, List.length_map, List.append_assoc, ← lastLet_map] at ih
      exact ih
end
section -- F29
structure LawIn (N : Nm) (kn : List Int) (rs : List Rw) : Prop where
  good : NmGood N
  known : ∀ c ∈ kn, 0 < c ∧ c < 1000
  nd : kn.Nodup
  mono : Mono rs
  len : rs.length ≤ 6
  codes : ∀ r ∈ rs, r.1 < 1000 ∧ 0 ≤ r.2.2.1
noncomputable def lawDue (N : Nm) (kn : List Int) (rs : List Rw) : List Rw :=
  lawJoined N N.whs kn (lawTurned N ((lawRows N kn rs).length + 1) (lawRows N kn rs) 0).length [] (lawTurned N ((lawRows N kn rs).length + 1) (lawRows N kn rs) 0)
theorem look_mem {β : Type} {xs : List (Int × β)} {k : Int} {b : β} (h : look xs k = some b) : (k, b) ∈ xs := by
  unfold look at h
  obtain ⟨x, hx, e⟩ := Option.map_eq_some_iff.mp h
  have h1 := List.mem_of_find?_eq_some hx
  have h2 := List.find?_some hx
  have h2 : x.1 = k := by simpa using h2
  rw [← h2, ← e]; exact h1
theorem look_none {β : Type} {xs : List (Int × β)} {k : Int} (h : ∀ x ∈ xs, x.1 ≠ k) : look xs k = none := by
  unfold look
  rw [Option.map_eq_none_iff, List.find?_eq_none]
  intro x hx e
  exact h x hx (by simpa using e)
theorem NmGood.ok {N : Nm} (h : NmGood N) : N.Ok := fun c a b e => by
  refine und fun Gq hGq => ?_
  obtain ⟨_, _, h1, h2, h3, h4⟩ := h.part _ (look_mem e)
  refine hGq ?_
  clear hGq Gq
  exact ⟨h1, h2, h3, h4⟩
theorem NmGood.key {N : Nm} (h : NmGood N) {y : (Int × Int) × Int} (hy : y ∈ N.whs) : 30 ≤ y.2 ∧ y.2 < 1000 := by
  obtain ⟨p, hp, rfl⟩ := List.mem_map.mp hy
  have := h.part p (List.mem_filter.mp hp).1
  exact ⟨this.1, this.2.1⟩
theorem NmGood.fine {N : Nm} (h : NmGood N) : N.fine :=
  ⟨h.ok, h.ord, h.dist, by have := h.len; omega, fun y hy => by have := h.key hy; omega⟩
theorem NmGood.zero {N : Nm} (h : NmGood N) : ∀ y ∈ N.whs, N.classOf y.2 = 0 := fun y hy => by
  have hk := h.key hy
  unfold Nm.classOf
  rw [look_none fun x hx => by have := h.cls x hx; omega]; rfl
theorem fold_glyph {cs : List Int} : ∀ {ps : List (Int × Int)} {rs : List Rw}, (∀ r ∈ rs, 0 ≤ r.2.2.1) → ∀ r ∈ ps.foldl (turnC cs) rs, 0 ≤ r.2.2.1
  | [], rs, h => h
  | p :: ps, rs, h => by
    rw [List.foldl_cons]
    refine fold_glyph fun r hr => ?_
    rcases turnC_mem hr with h1 | h1 | h1
    · exact h r h1
    · obtain ⟨q, hq, rfl⟩ := List.mem_map.mp h1
      have := h q hq
      split <;> exact this
    · rw [h1]; decide
theorem apart_glyph {N : Nm} {kn : List Int} {rs : List Rw} (h : ∀ r ∈ rs, 0 ≤ r.2.2.1) : ∀ r ∈ N.apartRows kn rs, 0 ≤ r.2.2.1 := fun r hr => by
  refine und fun Gq hGq => ?_
  obtain ⟨q, hq, hr⟩ := List.mem_flatMap.mp hr
  obtain ⟨c, hc, rfl⟩ := List.mem_map.mp hr
  refine hGq ?_
  clear hGq Gq
  exact h q hq
theorem law_eq {N : Nm} {kn : List Int} {rs : List Rw} (h : LawIn N kn rs) : normRows N kn rs = lawDue N kn rs := by
  unfold normRows lawDue
  rw [lawTurned_eq, lawRows_eq]
  have hg : ∀ r ∈ orderRows N (N.apartRows kn rs), 0 ≤ r.2.2.1 := fold_glyph (apart_glyph fun r hr => (h.codes r hr).2)
  generalize orderRows N (N.apartRows kn rs) = O at hg
  exact joined_eq h.good.zero O.length [] O rfl (by simpa using hg)
end
section -- F26
theorem cl3 {α : Type} {P : α → Prop} {a b c : α} (h : P a) (h' : P b) (h'' : P c) : ∀ p ∈ [a, b, c], P p := fun p hp => by
  rcases List.mem_cons.mp hp with rfl | hp
  · exact h
  · exact cl2 h' h'' p hp
theorem InfO.mask {f : Vm} {c : Int} {t : Tok} {r : Rw} (hf : InfA f r) : InfA (upd f "mask" (.int c t)) (r.1, r.2.1, r.2.2.1, c) := by
  refine und fun Gq hGq => ?_
  obtain ⟨⟨t1, a1⟩, ⟨t2, a2⟩, ⟨t3, a3⟩, ⟨t4, a4⟩, ⟨b5, a5⟩, ⟨u6, t6, a6⟩, ⟨u7, t7, a7⟩, ⟨u8, t8, a8⟩, ⟨u9, t9, a9⟩, ⟨u10, t10, a10⟩, ⟨u11, t11, a11⟩, ⟨u12, t12, a12⟩, ⟨u13, t13, a13⟩, ⟨u14, t14, a14⟩, ⟨u15, t15, a15⟩, a16⟩ := hf
  refine hGq ?_
  clear hGq Gq
  constructor
  all_goals first
    | exact ⟨_, by wtm_at "zvr"⟩
    | exact ⟨_, _, by wtm_at "zvr"⟩
    | wtm_at "zvr"
noncomputable def menuOf (N : Nm) : List Int := [1, 2, 3, 4, 20, 21, 22, 23] ++ N.parts.map (·.1)
theorem menu_nodup {N : Nm} (h : NmGood N) : (menuOf N).Nodup := by
  unfold menuOf
  rw [List.nodup_append]
  refine ⟨by decide, h.ord.imp fun h => Int.ne_of_lt h, fun x hx y hy e => ?_⟩
  obtain ⟨q, hq, rfl⟩ := List.mem_map.mp hy
  have := (h.part q hq).1
  have : x < 30 := by
    have : ∀ x ∈ ([1, 2, 3, 4, 20, 21, 22, 23] : List Int), x < 30 := by decide
    exact this x hx
  omega
theorem menu_range {N : Nm} (h : NmGood N) : ∀ c ∈ menuOf N, 0 < c ∧ c < 1000 := fun c hc => by
  rcases List.mem_append.mp hc with hc | hc
  · have : ∀ x ∈ ([1, 2, 3, 4, 20, 21, 22, 23] : List Int), 0 < x ∧ x < 1000 := by decide
    exact this c hc
  · obtain ⟨q, hq, rfl⟩ := List.mem_map.mp hc
    have := h.part q hq
    omega
section
variable {prog : Program} {w : World} {A : Around} {env : Env} {g : Org} {m : Vm} {W : Wd} {X : Led}
theorem as_tup3 {x₁ x₂ x₃ : Str} {p₁ p₂ p₃ : Pos} {k : Nat} {pos : Pos} {t : Addr} {v₁ v₂ v₃ : Value} {Q : Unit → Vm → Wd → Led → Prop} (hh : A.handled = none) (ht : TupX W X t [v₁, v₂, v₃])
    (h : Tr prog w A env g m W X (storeName env x₁ v₁) (KSt1 prog w A env g x₂ v₂ (KSt1 prog w A env g x₃ v₃ Q))) :
    Tr prog w A env g m W X (assign (.Tuple [.Name x₁ p₁, .Name x₂ p₂, .Name x₃ p₃] k pos) env (.ref t)) Q :=
  as_tup hh ht rfl rfl (ai_cons (as_name (h.mono fun _ _ _ _ h => ai_cons (as_name (h.mono fun _ _ _ _ h => ai_cons (as_name (h.mono fun _ _ _ _ h => ai_nil h)))))))
end
theorem lawRows_snoc (N : Nm) (kn : List Int) (rs : List Rw) (r : Rw) : lawRows N kn (rs ++ [r]) = lawRows N kn rs ++ (if 0 < r.2.2.1 then [r.1] else lawApart N kn 9 [r.1] [r.1]).map fun c => (c, r.2) := by
  unfold lawRows; rw [List.flatMap_append]; simp
theorem lawRows_len {N : Nm} (hN : N.Ok) {kn : List Int} {rs : List Rw} (h : ∀ r ∈ rs, r.1 < 1000) : (lawRows N kn rs).length ≤ 9 * rs.length := by
  rw [lawRows_eq]; exact Nm.apartRows_len hN h
theorem lawApart_len {N : Nm} {kn : List Int} (hN : N.Ok) {c gl : Int} (hc : c < 1000) : (if 0 < gl then [c] else lawApart N kn 9 [c] [c]).length ≤ 9 := by
  split
  · simp
  · rw [apart_had 8]; exact (Nm.had_len hN (kn := kn) hc).1
theorem pick4 {a b c e : Int} {t1 t2 t3 t4 : Tok} {d : Int} (h0 : 0 ≤ d) (h1 : d < 4) (P : Int → Prop) (ha : P a) (hb : P b) (hc : P c) (he : P e) : ∃ y ty, ([Value.int a t1, Value.int b t2, Value.int c t3, Value.int e t4] : List Value)[d.toNat]? = some (.int y ty) ∧ P y := by
  obtain ⟨n, rfl⟩ : ∃ n : Nat, d = n := ⟨d.toNat, by omega⟩
  match n, h1 with
  | 0, _ => exact ⟨a, t1, rfl, ha⟩
  | 1, _ => exact ⟨b, t2, rfl, hb⟩
  | 2, _ => exact ⟨c, t3, rfl, hc⟩
  | 3, _ => exact ⟨e, t4, rfl, he⟩
  | n + 4, h => exact absurd h (by omega)
theorem ptLoop_len {N : Nm} {ws : List ((Int × Int) × Int)} {kn : List Int} : ∀ (n : Nat) (rs : List Rw) (st : Option Nat) (last : Int) (a : Nat), (ptLoop N ws kn n rs st last a).length ≤ rs.length
  | 0, rs, st, last, a => Nat.le_refl _
  | n + 1, rs, st, last, a => by
    rw [ptLoop]
    split
    · refine Nat.le_trans (ptLoop_len n _ st last a) ?_
      unfold joinAt
      rw [List.length_append, List.length_take, List.length_drop, List.length_set, merged_len]
      omega
    · exact ptLoop_len n rs _ _ _
theorem ints_take {vs : List Value} {ns : List Int} (h : IntsAre vs ns) : ∀ k, IntsAre (vs.take k) (ns.take k) := by
  induction h with
  | nil => intro k; simp; exact .nil
  | cons n t r ih =>
    intro k
    cases k with
    | zero => exact .nil
    | succ k => exact .cons n t (ih k)
theorem ints_append {vs us : List Value} {ns ms : List Int} (h : IntsAre vs ns) (h' : IntsAre us ms) : IntsAre (vs ++ us) (ns ++ ms) := by
  induction h with
  | nil => exact h'
  | cons n t r ih => exact .cons n t ih
local macro_rules | `(tactic| wtm_at "zny") => `(tactic| first
  | with_reducible first | refine ex_cons ?_ | refine th_next ?_ | refine as_name ?_
  | ((with_reducible refine' so_loc ?a ?b ?c ?_); (case a | b | c => exact rfl)))
theorem law_spec {w : World} {A : Around} {W : Wd} {l : Addr} {vs : List Value} {ns : List Int} (G : GW w (Mine.hd.heap_1 w.params) W) (hr : Room A 9) (hl : LstW W l vs) (hi : IntsAre vs ns) (hz : ns.length ≤ 63) (hC : CodeW W 336 334) :
    Cl PG w A W [(334, tabObj #[])] (.ref 347) [.ref l] fun v W' X' => v = .bool true ∧ ∃ ps, (334, tabObj ps) ∈ X' := by
  have hvl := hi.length
  refine Cl.enter [("script", .ref l)] G hr (by k_is) (by k_is) (fun s X S => by exact BindsTo.of_eq rfl) (by exact rfl) (by exact rfl) (by exact rfl) (by exact rfl) (by exact rfl) fun A' L g Q0 hr' hQ0 => ?_
  dsimp only [mB, List.foldl]
  wtm_at "zgo"
  refine ex_asgC ["cell"] (by with_unfolding_all rfl) (fun _ => rfl) (by with_unfolding_all rfl) (by decide) rfl (by decide) cl0 cl0 ?_
  wtm_at "zgo"
  intro sl1 W1 hsl1 le1
  refine su_slc (hl.up le1).x hsl1 IsPart.none (IsPart.int _ _) (fun i e => by cases e) (fun i e => by cases e; decide) (by rw [sizeLine_eq]; omega) (by with_unfolding_all rfl) fun r2 W2 h2 le2 => ?_
  have hl2 := lstW_new h2
  simp only [Option.elim, List.drop_zero, show (60 : Int).toNat = 60 from rfl] at hl2
  have hi2 : IntsAre (vs.take 60) (ns.take 60) := ints_take hi 60
  have hv2 := hi2.length
  have hv3 : (vs.take 60).length ≤ 63 := by rw [List.length_take]; omega
  refine ⟨_, (vs.take 60).length, _, itr_list hr'.hd hl2, by rw [sizeLine_eq]; omega, fun j ys W3 X3 => Le W2 W3 ∧ X3 = [(334, tabObj #[])] ∧ ∃ cs, IntsAre ys cs, ⟨Le.refl _, rfl, [], .nil⟩, ?_, ?_⟩
  · intro Cn j ys v mi W3 X3 g3 hj hP hle3 hag hJ1 hyl T1 hT1 Gq hGq
    obtain ⟨_, rfl, cs, hI⟩ := hJ1
    obtain ⟨q, hq⟩ : ∃ q, (ns.take 60)[j]? = some q := ⟨_, List.getElem?_eq_getElem (by omega)⟩
    obtain ⟨tq, hq'⟩ := hi2.get j q hq
    rw [hq'] at hP
    obtain rfl := Option.some.inj hP
    refine hGq _ _ ?_
    clear hGq Gq
    have G3 := (G.up (le1.trans le2)).up hle3
    wtm_at "zgo"
    refine ts_nil ?_
    refine ite_t rfl ?_
    wtm_at "zgo"
    refine ca_int ?_
    wtm_at "zgo"
    refine bo_mod (by decide) fun t3 => ?_
    wtm_at "zgo"
    exact ⟨hag.upd (by decide), hle3, rfl, _, ksk_snoc hI⟩
  intro a3 o3 cvs W3 X3 hle3 ho3 hyl3 hJ2 ha3 hx3 Gq hGq
  obtain ⟨_, rfl, cs, hcs⟩ := hJ2
  refine hGq _ ?_
  clear hGq Gq
  intro g3
  refine Tr.freeze fun W4 hw4 le4 => ?_
  have hcl : LstW W4 a3 cvs := ⟨o3, hw4, ho3⟩
  have le04 := (le1.trans le2).trans (hle3.trans le4)
  have G4 := G.up le04
  have hcsl := hcs.length
  wtm_at "zgo"
  refine ca_sum hr'.hd hcl.x hcs fun t4 => ?_
  wtm_at "zgo"
  refine bo_mod (by decide) fun t5 => ?_
  wtm_at "zgo"
  refine nw_lst (by rw [sizeLine_eq]; simp) fun pa hp1 hp2 => ?_
  wtm_at "zgo"
  refine Tr.callAG (lawnormal_spec G4 (hr'.le (by decide)) ⟨a3, cvs, cs, _, _, _, lstO _, hcl, hcs, by omega⟩) fun Gq W5 v X5 le5 hGq hK1 => ?_
  obtain ⟨nx, N, op5, k5, e1, hN, hgood, e2, hP5, hk5⟩ := hK1
  subst e1; subst e2
  refine hGq _ _ ?_
  clear hGq Gq
  have G5 := G4.up le5
  wtm_at "zgo"
  refine nw_lstW (by rw [sizeLine_eq]; simp) fun a6 W6 ha6 le6 => ?_
  have hN6 := hN.up le6
  have G6 := G5.up le6
  refine und fun Gq hGq => ?_
  obtain ⟨dx, od, f, pp, cc, pk, ck, h1, h2', h3, h4, h5, h6, h7, h8, h9, h10, h11⟩ := id hN6
  refine hGq ?_
  clear hGq Gq
  have hpkl := h9.length
  have hgl := hgood.len
  have hko := keys_of h9
  wtm_at "zgo"
  refine ca_sortI hr'.hd h8.x (by omega) (by rw [hko]; exact hgood.ord) fun r7 out W7 hr7 hi7 le7 => ?_
  have hol := hi7.length
  rw [List.length_map] at hol
  refine bo_addl (LstW.x (lstW_new (le7 _ _ ha6))) hr7.x (by rw [sizeLine_eq]; simp; omega) fun r8 W8 h8' le8 => ?_
  obtain ⟨mvs, hmenu, hmi⟩ : ∃ mvs, LstW W8 r8 mvs ∧ IntsAre mvs (menuOf N) := ⟨_, lstW_new h8', ints_append (.cons _ _ (.cons _ _ (.cons _ _ (.cons _ _ (.cons _ _ (.cons _ _ (.cons _ _ (.cons _ _ .nil)))))))) (by rw [← hko]; exact hi7)⟩
  have hml := hmi.length
  have hmN : (menuOf N).length ≤ 13 := by unfold menuOf; simp; omega
  have hmp : 8 ≤ (menuOf N).length := by unfold menuOf; simp
  have le58 := le6.trans (le7.trans le8)
  have hN8 := hN.up le58
  have G8 := G5.up le58
  wtm_at "zgo"
  refine ex_asgC ["code"] (by with_unfolding_all rfl) (fun _ => rfl) (by with_unfolding_all rfl) (by decide) rfl (by decide) (cl1 rfl) (cl1 ⟨rfl, rfl⟩) ?_
  wtm_at "zgo"
  refine ⟨_, mvs.length, _, itr_list hr'.hd hmenu, by rw [sizeLine_eq]; omega, fun j ys W9 X9 => Le W8 W9 ∧ ∃ op kn, X9 = [(pa, op), (334, tabObj #[])] ∧ Pen W9 op (k5 + j) ∧ IntsAre ys kn ∧ kn.Sublist ((menuOf N).take j), ⟨Le.refl _, op5, [], rfl, hP5.up le58, .nil, List.Sublist.refl _⟩, ?_, ?_⟩
  · intro Cn j ys v mi W9 X9 g9 hj hP hle9 hag hJ3 hyl T1 hT1 Gq hGq
    obtain ⟨_, op, kn, rfl, hP9, hI, hsub⟩ := hJ3
    have vp : mi "pen" = some (.ref pa) := ag_get hag (by decide) rfl (by wtm_at "zvr")
    obtain ⟨q, hq⟩ : ∃ q, (menuOf N)[j]? = some q := ⟨_, List.getElem?_eq_getElem (by omega)⟩
    obtain ⟨tq, hq'⟩ := hmi.get j q hq
    rw [hq'] at hP
    obtain rfl := Option.some.inj hP
    refine hGq _ _ ?_
    clear hGq Gq
    have G9 := G8.up hle9
    have htk : (menuOf N).take (j + 1) = (menuOf N).take j ++ [q] := by rw [List.take_add_one, hq]; rfl
    wtm_at "zgo"
    refine ts_one ?_
    wtm_at "zgo"
    refine Tr.call1G (drawp_spec G9 (hr'.le (by decide)) hP9 (by omega) (by decide)) fun Gq W10 v X10 le10 hGq hK2 => ?_
    obtain ⟨d, t10, o10, e1, d0, d1, e2, hP10⟩ := hK2
    subst e1; subst e2
    refine hGq _ _ ?_
    clear hGq Gq
    wtm_at "zgo"
    by_cases hd : 0 < d
    · rw [decide_eq_true hd]
      wtm_at "zgo"
      refine ⟨hag.upd (by decide), hle9.trans le10, o10, kn ++ [q], rfl, hP10.up le10, ksk_snoc hI, ?_⟩
      rw [htk]
      exact hsub.append (List.Sublist.refl _)
    · rw [decide_eq_false hd]
      wtm_at "zgo"
      refine ⟨hag.upd (by decide), hle9.trans le10, o10, kn, rfl, hP10.up le10, hI, ?_⟩
      rw [htk]
      exact hsub.trans (List.sublist_append_left _ _)
  intro a11 o11 kvs W11 X11 hle11 ho11 hyl11 hJ4 ha11 hx11 Gq hGq
  obtain ⟨_, op11, kn, rfl, hP11, hki, hsub⟩ := hJ4
  refine hGq _ ?_
  clear hGq Gq
  intro g11
  refine Tr.freeze fun W12 hw12 le12 => ?_
  rw [List.take_of_length_le (by omega)] at hsub
  have hkl : LstW W12 a11 kvs := ⟨o11, hw12, ho11⟩
  have hkV : RowV W12 (.ref a11) kn := ⟨a11, kvs, rfl, hkl, hki⟩
  have hkr : ∀ c ∈ kn, 0 < c ∧ c < 1000 := fun c hc => menu_range hgood c (hsub.subset hc)
  have hknd : kn.Nodup := (menu_nodup hgood).sublist hsub
  have hk0 : ¬ (0 : Int) ∈ kn := fun h => by have := hkr 0 h; omega
  have hkn13 : kn.length ≤ 13 := by have := hsub.length_le; omega
  have le812 := hle11.trans le12
  have hN12 := hN8.up le812
  have G12 := G8.up le812
  have hmenu12 := hmenu.up le812
  have hP12 := hP11.up le12
  wtm_at "zgo"
  refine nw_lst (by rw [sizeLine_eq]; simp) fun il hil1 hil2 => ?_
  wtm_at "zgo"
  refine nw_lstW (by rw [sizeLine_eq]; simp) fun a13 W13 ha13 le13 => ?_
  wtm_at "zgo"
  refine nw_tupW (by rw [sizeLine_eq]; simp) fun a14 W14 ha14 le14 => ?_
  refine as_tup3 hr'.hd (tupW_new ha14).x ?_
  have le1214 := le13.trans le14
  have G14 := G12.up le1214
  wtm_at "zgo"
  refine ex_for (fun _ => rfl) ?_
  wtm_at "zgo"
  refine Tr.callPG (Xp := [(pa, op11)]) (List.Perm.swap _ _ _) (drawp_spec G14 (hr'.le (by decide)) (hP12.up le1214) (by omega) (by decide)) fun Gq W15 v X15 le15 hGq hK3 => ?_
  obtain ⟨nl, t15, o15, e1, nl0, nl1, e2, hP15⟩ := hK3
  subst e1; subst e2
  refine hGq _ _ ?_
  clear hGq Gq
  obtain ⟨nlap, rfl⟩ : ∃ n : Nat, nl = n := ⟨nl.toNat, by omega⟩
  wtm_at "zgo"
  refine ca_range1 fun r16 W16 hr16 le16 => ?_
  have le1216 := le1214.trans (le15.trans le16)
  refine ⟨_, nlap, _, itr_rg hr'.hd hr16 (by decide) (by decide) (by omega) (by omega) (by omega), fun i m' W' X' => Ex8 fun op k io is rs rv cl tc => And17 (X'.Perm ((il, io) :: (pa, op) :: (334, tabObj #[]) :: led is)) (PlO io (refs is)) (All2 (InfW W') is rs) (rs.length = i) (Mono rs) ((∀ r ∈ rs, r.2.1 ≤ cl)) ((∀ r ∈ rs, r.1 < 1000 ∧ 0 ≤ r.2.2.1)) (RowsW W' rv (lawRows N kn rs)) (Pen W' op k) (k ≤ 200 + 10 * i) (m' "pen" = some (.ref pa)) (m' "normal" = some (.ref nx)) (m' "menu" = some (.ref r8)) (m' "known" = some (.ref a11)) (m' "infos" = some (.ref il)) (m' "cluster" = some (.int cl tc)) (m' "rows" = some rv), ?_, ?_, ?_⟩
  · refine ⟨o15, _, _, [], [], .ref a13, 0, _, List.Perm.swap _ _ _, plO _, .nil, rfl, fun i j h1 h2 => by simp at h2, nofun, nofun, ⟨a13, _, rfl, lstW_new (le16 _ _ (le15 _ _ (le14 _ _ ha13))), .nil⟩, (hP15.up le15).up le16, ?_, by wtm_at "zvr", by wtm_at "zvr", by wtm_at "zvr", by wtm_at "zvr", by wtm_at "zvr", by wtm_at "zvr", by wtm_at "zvr"⟩
    omega
  · intro i v m' W' X' g' T0 hT0 hii hJ5 hle hJ6 Gq hGq
    obtain ⟨ti, rfl⟩ := hJ5
    obtain ⟨op, k, io, is, rs, rv, cl, tc, hpm, hio, hA, hlen, hmono, hcl', hcd, hrv, hPk, hk, v1, v2, v3, v4, v5, v6, v7⟩ := hJ6
    refine hGq _ _ ?_
    clear hGq Gq
    refine Tr.perm (hpm.trans (List.Perm.swap _ _ _)) ?_
    have le1 := le1216.trans hle
    have G' := G12.up le1
    have hmenu' := hmenu12.up le1
    have hi6 : i < 6 := by omega
    have hisl := hA.length
    wtm_at "zgo"
    refine nw_lstW (by rw [sizeLine_eq]; simp) fun b1 V1 hb1 lb1 => ?_
    have G1 := G'.up lb1
    wtm_at "zgo"
    refine Tr.call1G (drawp_spec G1 (hr'.le (by decide)) (hPk.up lb1) (by omega) (by decide)) fun Gq V2 v Y2 lb2 hGq hK4 => ?_
    obtain ⟨d1, td1, o1, e1, d10, d11, e2, hQ1⟩ := hK4
    subst e1; subst e2
    refine hGq _ _ ?_
    clear hGq Gq
    obtain ⟨y, ty, hy, hy0⟩ := pick4 (a := 1) (b := 1) (c := 2) (e := 0) d10 d11 (fun y => 0 ≤ y) (by decide) (by decide) (by decide) (by decide)
    refine su_lst (LstW.x (lstW_new (lb2 _ _ hb1))) d10 (by omega) hy (by with_unfolding_all rfl) ?_
    have G2 := G1.up lb2
    have hmenu2 := (hmenu'.up lb1).up lb2
    wtm_at "zgo"
    refine ca_len hmenu2.x (by rw [sizeLine_eq]; omega) fun _ => ?_
    wtm_at "zgo"
    refine Tr.call1G (drawp_spec G2 (hr'.le (by decide)) (hQ1.up lb2) (by omega) (by omega)) fun Gq V3 v Y3 lb3 hGq hK5 => ?_
    obtain ⟨d2, td2, o2, e1, d20, d21, e2, hQ2⟩ := hK5
    subst e1; subst e2
    refine hGq _ _ ?_
    clear hGq Gq
    obtain ⟨c, hc⟩ : ∃ c, (menuOf N)[d2.toNat]? = some c := ⟨_, List.getElem?_eq_getElem (by omega)⟩
    obtain ⟨tc', hc'⟩ := hmi.get _ _ hc
    have hcr := menu_range hgood c (List.mem_of_getElem? hc)
    refine su_lst (hmenu2.up lb3).x d20 (by omega) hc' (by with_unfolding_all rfl) ?_
    have G3 := G2.up lb3
    wtm_at "zgo"
    refine nw_lstW (by rw [sizeLine_eq]; simp) fun b4 V4 hb4 lb4 => ?_
    have G4' := G3.up lb4
    wtm_at "zgo"
    refine Tr.call1G (drawp_spec G4' (hr'.le (by decide)) ((hQ2.up lb3).up lb4) (by omega) (by decide)) fun Gq V5 v Y5 lb5 hGq hK6 => ?_
    obtain ⟨d3, td3, o3', e1, d30, d31, e2, hQ3⟩ := hK6
    subst e1; subst e2
    refine hGq _ _ ?_
    clear hGq Gq
    refine und fun Gq hGq => ?_
    obtain ⟨gl, tg, hgl, hgl0⟩ := pick4 (a := 0) (b := 0) (c := 0) (e := 77) d30 d31 (fun y => 0 ≤ y) (by decide) (by decide) (by decide) (by decide)
    refine hGq ?_
    refine su_lst (LstW.x (lstW_new (lb5 _ _ hb4))) d30 (by omega) hgl (by with_unfolding_all rfl) ?_
    have G5' := G4'.up lb5
    wtm_at "zgo"
    refine Tr.callPG (Xp := []) (Xr := (pa, o3') :: (il, io) :: (334, tabObj #[]) :: led is) (List.Perm.refl _) (infomake_spec G5' (hr'.le (by decide))) fun Gq V6 v Y6 lb6 hGq hK7 => ?_
    obtain ⟨ix, idd, io6, e1, e2, hI6⟩ := hK7
    subst e1; subst e2
    refine hGq _ _ ?_
    clear hGq Gq
    refine und fun Gq hGq => ?_
    obtain ⟨hix, fi, hfi, hfa⟩ := hI6
    obtain ⟨tmk, hmk⟩ := hfa.mask
    refine hGq ?_
    clear hGq Gq
    have G6' := G5'.up lb6
    dsimp only [List.cons_append, List.nil_append]
    wtm_at "zgo"
    rename_i _ tm1 od6 hod6
    have hfa6 := InfO.mask (c := 0 + (i : Int) + 1) (t := tm1) hfa
    obtain ⟨tcd, hcd6⟩ := hfa6.code
    obtain ⟨tgl, hgl6⟩ := hfa6.glyph
    refine gm_app (.inr (.tail _ (.tail _ (.head _)))) hio ?_
    wtm_at "zgo"
    refine Tr.perm (List.perm_middle (l₁ := [(idd, od6), (pa, o3')])) ?_
    dsimp only [List.cons_append, List.nil_append]
    refine ca_app hio (by rw [sizeLine_eq]; simp [refs]; omega) fun io7 hio7 => ?_
    refine ⟨rfl, ?_⟩
    have lb06 := lb1.trans (lb2.trans (lb3.trans (lb4.trans (lb5.trans lb6))))
    have hN6' := hN12.up (le1.trans lb06)
    have hkV6 := hkV.up (le1.trans lb06)
    wtm_at "zgo"
    refine ite_join (fun v m W2 X => And4 (Le V6 W2) (X = (il, io7) :: (idd, od6) :: (pa, o3') :: (334, tabObj #[]) :: led is) (RowV W2 v (if 0 < gl then [c] else lawApart N kn 9 [c] [c])) (∃ tcl, m = upd (upd (upd m' "lap" (Value.int (0 + (i : Int)) ti)) "cluster" (Value.int (cl + y) tcl)) "info" (Value.ref ix))) (fun hc => ?_) (fun hc => ?_) ?_
    · have hc := of_decide_eq_true hc
      wtm_at "zgo"
      refine nw_lstW (by rw [sizeLine_eq]; simp) fun b8 V8 hb8 lb8 => ⟨lb8, rfl, ?_, _, rfl⟩
      rw [if_pos hc]
      exact ⟨b8, _, rfl, lstW_new hb8, .cons _ _ .nil⟩
    · have hc := of_decide_eq_false hc
      wtm_at "zgo"
      refine Tr.call0 (lawapart_spec G6' (hr'.le (by decide)) hN6' hgood.ok hcr.2 hkV6 (by omega)) fun v V8 lb8 hv => ⟨lb8, rfl, ?_, _, rfl⟩
      rw [if_neg hc]; exact hv
    intro v m2 V8 X8 hJ7 Gq hGq
    obtain ⟨lb8, rfl, hap, tcl, rfl⟩ := hJ7
    obtain ⟨al, avs, rfl, hal, hai⟩ := hap
    refine hGq _ _ _ _ ?_
    clear hGq Gq
    have hcodes := lawApart_len (N := N) (kn := kn) hgood.ok (c := c) hcr.2 (gl := gl)
    generalize hapg : (if 0 < gl then [c] else lawApart N kn 9 [c] [c]) = ap at hai hcodes
    have hapl := hai.length
    refine und fun Gq hGq => ?_
    obtain ⟨rl, rvs, rfl, hrl, hrA⟩ := hrv
    refine hGq ?_
    clear hGq Gq
    have hrvl := hrA.length
    have hix8 := lb8 _ _ hix
    have G8' := G6'.up lb8
    have hrl8 := hrl.up (lb06.trans lb8)
    have hrows := lawRows_len (N := N) (kn := kn) hgood.ok (rs := rs) (fun r hr => (hcd r hr).1)
    wtm_at "zgo"
    refine ev_comp ["code"] (fun _ => rfl) (by with_unfolding_all rfl) (by decide) rfl (by decide) (cl3 rfl rfl rfl) (cl3 ⟨rfl, rfl⟩ ⟨rfl, rfl⟩ ⟨rfl, rfl⟩) ?_
    wtm_at "zgo"
    refine ⟨_, avs.length, _, itr_list hr'.hd hal, by rw [sizeLine_eq]; omega, fun j ys W9 X9 => Le V8 W9 ∧ X9 = (il, io7) :: (idd, od6) :: (pa, o3') :: (334, tabObj #[]) :: led is ∧ All2 (Tup4 W9) ys ((ap.take j).map fun c' => ((c', cl + y, gl, 0 + (i : Int) + 1) : Rw)), ⟨Le.refl _, rfl, .nil⟩, ?_, ?_⟩
    · intro Cn j ys v mi W9 X9 g9 hj hP hle9 hag hK8 hyl T1 hT1 Gq hGq
      obtain ⟨_, rfl, hI⟩ := hK8
      refine hGq _ _ ?_
      clear hGq Gq
      obtain ⟨q, hq⟩ : ∃ q, ap[j]? = some q := ⟨_, List.getElem?_eq_getElem (by omega)⟩
      obtain ⟨tq, hq'⟩ := hai.get j q hq
      rw [hq'] at hP
      obtain rfl := Option.some.inj hP
      have vi : mi "info" = some (.ref ix) := ag_get hag (by decide) rfl (by wtm_at "zvr")
      have vc : mi "cluster" = some (.int (cl + y) tcl) := ag_get hag (by decide) rfl (by wtm_at "zvr")
      have vl : mi "lap" = some (.int (0 + (i : Int)) ti) := ag_get hag (by decide) rfl (by wtm_at "zvr")
      have hix9 := hle9 _ _ hix8
      have G9' := G8'.up hle9
      wtm_at "zgo"
      refine ts_nil ?_
      refine ite_t rfl ?_
      wtm_at "zgo"
      refine nw_tupW (by rw [sizeLine_eq]; simp) fun b9 V9 hb9 lb9 => ?_
      wtm_at "zgo"
      refine ⟨hag.upd (by decide), hle9.trans lb9, rfl, ?_⟩
      rw [List.take_add_one, hq, List.map_append]
      exact (hI.mono fun _ _ z => z.up lb9).snoc ⟨b9, _, _, _, _, rfl, hb9⟩
    · intro a9 o9' ys9 W9 X9 hle9 ho9 hyl9 hK9 ha9 hx9 Gq hGq
      obtain ⟨_, rfl, hI9⟩ := hK9
      refine hGq _ ?_
      clear hGq Gq
      rw [List.take_of_length_le (by omega)] at hI9
      refine Tr.freeze fun W10' hw10 lb10 => ?_
      have hI9l := hI9.length
      rw [List.length_map] at hI9l
      have lb810 := hle9.trans lb10
      refine bo_addl (hrl8.up lb810).x (LstW.x (⟨o9', hw10, ho9⟩ : LstW W10' a9 _)) (by rw [sizeLine_eq]; omega) fun r11' W11' h11' lb11 => ?_
      have lb811 := lb810.trans lb11
      have lbA := lb06.trans (lb8.trans lb811)
      wtm_at "zgo"
      have hdr : lawRows N kn (rs ++ [(c, cl + y, gl, 0 + (i : Int) + 1)]) = lawRows N kn rs ++ ap.map fun c' => ((c', cl + y, gl, 0 + (i : Int) + 1) : Rw) := by
        rw [lawRows_snoc, ← hapg]
      refine ⟨o3', k + 3, io7, is ++ [⟨ix, idd, od6⟩], rs ++ [(c, cl + y, gl, 0 + (i : Int) + 1)], .ref r11', cl + y, tcl, ?_, by rw [refs_append]; exact hio7, (hA.mono fun _ _ z => z.up lbA).snoc ⟨lb811 _ _ hix8, _, hod6, hfa6⟩, by rw [List.length_append, List.length_singleton]; omega, ?_, ?_, ?_, ?_, hQ3.up (lb5.trans (lb6.trans (lb8.trans lb811))), by omega, by wtm_at "zvr", by wtm_at "zvr", by wtm_at "zvr", by wtm_at "zvr", by wtm_at "zvr", by wtm_at "zvr", by wtm_at "zvr"⟩
      · rw [led_append]
        exact perm_new (A := [(334, tabObj #[])])
      · rw [mono_iff, List.pairwise_append]
        refine ⟨mono_iff.mp hmono, List.pairwise_singleton _ _, fun a ha b hb => ?_⟩
        rw [List.mem_singleton.mp hb]
        have := hcl' a ha
        show a.2.1 ≤ cl + y
        omega
      · intro r hr
        rcases List.mem_append.mp hr with h | h
        · have := hcl' r h; omega
        · rw [List.mem_singleton.mp h]; exact Int.le_refl _
      · intro r hr
        rcases List.mem_append.mp hr with h | h
        · exact hcd r h
        · rw [List.mem_singleton.mp h]; exact ⟨hcr.2, hgl0⟩
      · rw [hdr]
        refine ⟨r11', _, rfl, lstW_new h11', All2.append (hrA.mono fun _ _ z => z.up lbA) (hI9.mono fun _ _ z => z.up (lb10.trans lb11))⟩
  · intro m' W' X' hle hJ8 Gq hGq
    obtain ⟨op, k, io, is, rs, rv, cl, tc, hpm, hio, hA, hlen, hmono, hcl', hcd, hrv, hPk, hk, v1, v2, v3, v4, v5, v6, v7⟩ := hJ8
    refine hGq _ ?_
    clear hGq Gq
    have hrl6 : rs.length ≤ 6 := by omega
    have hin : LawIn N kn rs := ⟨hgood, hkr, hknd, hmono, hrl6, hcd⟩
    have le1 := le1216.trans hle
    have G' := G12.up le1
    have hN' := hN12.up le1
    have hkV' := hkV.up le1
    have hC' := hC.up ((le04.trans le5).trans (le58.trans (le812.trans le1)))
    have hrows := lawRows_len (N := N) (kn := kn) hgood.ok (rs := rs) (fun r hr => (hcd r hr).1)
    have hmr : Mono (lawRows N kn rs) := by rw [lawRows_eq]; exact apart_mono hmono
    refine Tr.perm (hpm.trans (l₃ := (334, tabObj #[]) :: (il, io) :: (pa, op) :: led is) (List.perm_middle (l₁ := [(il, io), (pa, op)]))) ?_
    wtm_at "zgo"
    refine Tr.callAG (lawturned_spec G' (hr'.le (by decide)) hN' hrv hmr (by omega) hC') fun Gq V1 v Y1 lb1 hGq hK10 => ?_
    obtain ⟨htv, ps1, e1⟩ := hK10
    subst e1
    refine hGq _ _ ?_
    clear hGq Gq
    have hTe : lawTurned N ((lawRows N kn rs).length + 1) (lawRows N kn rs) 0 = orderRows N (N.apartRows kn rs) := by rw [lawTurned_eq, lawRows_eq]
    have hok := order_ok (N := N) (apart_mono (N := N) (kn := kn) hmono) (apart_codes hgood.ok (kn := kn) fun r hr => (hcd r hr).1)
    have hal' := Nm.apartRows_len hgood.ok (kn := kn) (rs := rs) fun r hr => (hcd r hr).1
    have G1 := G'.up lb1
    wtm_at "zgo"
    refine Tr.call0 (lawjoined_spec G1 (hr'.le (by decide)) (hN'.up lb1) hgood.dist (hgood.ord.imp fun h => Int.ne_of_lt h) (by omega) (fun p hp => (hgood.part p hp).2.2.2.2.1) (hkV'.up lb1) htv (by rw [hTe]; exact hok.2.1) (by rw [hTe, hok.1]; omega)) fun dv V2 lb2 hdv => ?_
    have G2 := G1.up lb2
    refine und fun Gq hGq => ?_
    obtain ⟨dl, dvs, rfl, hdl, hdA⟩ := hdv
    refine hGq ?_
    clear hGq Gq
    have hdue : lawJoined N N.whs kn (lawTurned N ((lawRows N kn rs).length + 1) (lawRows N kn rs) 0).length [] (lawTurned N ((lawRows N kn rs).length + 1) (lawRows N kn rs) 0) = normRows N kn rs := (law_eq hin).symm
    rw [hdue] at hdA
    wtm_at "zny"
    refine th_next ?_
    refine Tr.perm (List.Perm.swap _ _ _) (Tr.freeze fun V3 hil lb3 => ?_)
    have hill : LstW V3 il (refs is) := ⟨io, hil, hio.lst⟩
    have lb03 := lb1.trans (lb2.trans lb3)
    have G3 := G2.up lb3
    wtm_at "zgo"
    refine Tr.callPG (Xp := []) (Xr := (334, tabObj ps1) :: (pa, op) :: led is) (List.Perm.refl _) (bufmake_spec (l := il) G3 (hr'.le (by decide))) fun Gq V4 v Y4 lb4 hGq hK12 => ?_
    obtain ⟨bx, bd, bo, e1, e2, hbx, hbo⟩ := hK12
    subst e1; subst e2
    refine hGq _ _ ?_
    clear hGq Gq
    dsimp only [List.cons_append, List.nil_append]
    have G4'' := G3.up lb4
    have hkl4 := (hkl.up (le1.trans lb03)).up lb4
    have hknl := hki.length
    wtm_at "zgo"
    refine ev_compP ["code"] (fun _ => rfl) (by with_unfolding_all rfl) (by decide) rfl (by decide) cl0 cl0 ?_
    wtm_at "zgo"
    refine ⟨_, kvs.length, _, itr_list hr'.hd hkl4, by rw [sizeLine_eq]; omega, fun j ys W9 X9 => Le V4 W9 ∧ X9 = (bd, bo) :: (334, tabObj ps1) :: (pa, op) :: led is ∧ ∃ dk, All2 (fun v (kv : Int × Value) => ∃ t, PairW W9 v (.int kv.1 t) kv.2) ys dk ∧ All2 (fun (x : Int × Value) k => x.1 = k ∧ ∃ t, x.2 = .int k t) dk (kn.take j), ⟨Le.refl _, rfl, [], .nil, .nil⟩, ?_, ?_⟩
    · intro Cn j ys v mi W9 X9 g9 hj hP hle9 hag hJ9 hyl T1 hT1 Gq hGq
      obtain ⟨_, rfl, dk, hI1, hI2⟩ := hJ9
      obtain ⟨q, hq⟩ : ∃ q, kn[j]? = some q := ⟨_, List.getElem?_eq_getElem (by omega)⟩
      obtain ⟨tq, hq'⟩ := hki.get j q hq
      rw [hq'] at hP
      obtain rfl := Option.some.inj hP
      refine hGq _ _ ?_
      clear hGq Gq
      wtm_at "zgo"
      refine ts_nil ?_
      refine ite_t rfl ?_
      wtm_at "zgo"
      refine nw_tupW (by rw [sizeLine_eq]; simp) fun b9 V9 hb9 lb9 => ?_
      wtm_at "zgo"
      refine ⟨hag.upd (by decide), hle9.trans lb9, rfl, dk ++ [(q, .int q tq)], (hI1.mono fun _ _ z => let ⟨t, a, e, h⟩ := z; ⟨t, a, e, lb9 _ _ h⟩).snoc ⟨tq, b9, rfl, hb9⟩, ?_⟩
      rw [List.take_add_one, hq]
      exact hI2.snoc ⟨rfl, tq, rfl⟩
    intro a5 o5' ys5 V5 X5 hle5 ho5 hyl5 hJ10 ha5 hx5 Gq hGq
    obtain ⟨_, rfl, dk, hI1, hI2⟩ := hJ10
    refine hGq _ ?_
    clear hGq Gq
    rw [List.take_of_length_le (by omega)] at hI2
    refine Tr.freeze fun V6 hw6 lb6 => ?_
    have lb46 := hle5.trans lb6
    have G6' := G4''.up lb46
    have hdk1 := hI1.length
    have hdk2 := hI2.length
    have hdkk : dk.map (·.1) = kn := by
      have : ∀ {dk : List (Int × Value)} {ks : List Int}, All2 (fun (x : Int × Value) k => x.1 = k ∧ ∃ t, x.2 = .int k t) dk ks → dk.map (·.1) = ks := by
        intro dk ks h
        induction h with
        | nil => rfl
        | cons h r ih => rw [List.map_cons, ih, h.1]
      exact this hI2
    wtm_at "zgo"
    refine ca_dictI hr'.hd G6' ⟨_, rfl⟩ hw6 ho5 (by omega) hdk1 (fun i v e => ?_) (by rw [hdkk]; exact hknd) fun dd V7 hdd lb7 => ?_
    · obtain ⟨kv, h1, t, a, e1, h2⟩ := hI1.get' _ _ e
      exact ⟨kv.1, t, kv.2, h1, a, e1, lb6 _ _ h2⟩
    have G7' := G6'.up lb7
    wtm_at "zgo"
    refine Tr.callPG (Xp := []) (Xr := (bd, bo) :: (334, tabObj ps1) :: (pa, op) :: led is) (List.Perm.refl _) (charmake_spec G7' (hr'.le (by decide)) hdd hI2 hknd hk0 (by omega)) fun Gq V8 v Y8 lb8 hGq hK13 => ?_
    obtain ⟨cx, e1, e2, hcx⟩ := hK13
    subst e1; subst e2
    refine hGq _ _ ?_
    clear hGq Gq
    dsimp only [List.cons_append, List.nil_append]
    have lb48 := lb46.trans (lb7.trans lb8)
    have G8' := G7'.up lb8
    wtm_at "zgo"
    refine Tr.callPG (Xp := (bd, bo) :: led is) (Xr := [(334, tabObj ps1), (pa, op)]) (List.Perm.cons _ (List.perm_append_comm (l₁ := [(334, tabObj ps1), (pa, op)]))) (normalise_spec G8' (hr'.le (by decide)) (lb48 _ _ hbx) hbo ((hill.up lb4).up lb48) (hA.mono fun _ _ z => z.up (lb03.trans (lb4.trans lb48))) (hN'.up (lb03.trans (lb4.trans lb48))) hgood.fine hcx hk0 hmono hrl6 fun r hr => (hcd r hr).1) fun Gq V9 v Y9 lb9 hGq hK14 => ?_
    obtain ⟨e1, bo9, l9, js, e2, hbo9, hl9, hA9⟩ := hK14
    subst e1; subst e2
    refine hGq _ _ ?_
    clear hGq Gq
    refine ⟨rfl, ?_⟩
    have lb49 := lb48.trans lb9
    have hbx9 := lb49 _ _ hbx
    have G9' := G8'.up lb9
    obtain ⟨fb, hbf, hbr⟩ := id hbo9
    have hjl := hA9.length
    have hnl : (normRows N kn rs).length ≤ 1000 := by
      have := ptLoop_len (N := N) (ws := N.whs) (kn := kn) (orderRows N (N.apartRows kn rs)).length (orderRows N (N.apartRows kn rs)) none 0 0
      rw [hok.1] at this
      show (ptLoop N N.whs kn (orderRows N (N.apartRows kn rs)).length (orderRows N (N.apartRows kn rs)) none 0 0).length ≤ 1000
      rw [hok.1]
      omega
    dsimp only [List.cons_append]
    wtm_at "zgo"
    refine ev_comp ["info"] (fun _ => rfl) (by with_unfolding_all rfl) (by decide) rfl (by decide) cl0 cl0 ?_
    wtm_at "zgo"
    have hrl9 : (refs js).length = (normRows N kn rs).length := by simp [refs, hjl]
    refine ⟨_, (refs js).length, _, itr_list hr'.hd hl9, by rw [hrl9, sizeLine_eq]; omega, fun j ys W10 X10 => Le V9 W10 ∧ X10 = (bd, bo9) :: (led js ++ [(334, tabObj ps1), (pa, op)]) ∧ All2 (Tup4 W10) ys ((normRows N kn rs).take j), ⟨Le.refl _, rfl, .nil⟩, ?_, ?_⟩
    · intro Cn j ys v mi W10 X10 g10 hj hP hle10 hag hK15 hyl T1 hT1 Gq hGq
      obtain ⟨_, rfl, hI⟩ := hK15
      obtain ⟨q, hq, rfl⟩ := refs_get hP
      obtain ⟨r, hrr, hR⟩ := hA9.get' _ _ hq
      obtain ⟨hqx, fq, hqf, hqa⟩ := hR.up hle10
      obtain ⟨u1, y1⟩ := hqa.code
      obtain ⟨u2, y2⟩ := hqa.clus
      obtain ⟨u3, y3⟩ := hqa.glyph
      obtain ⟨u4, y4⟩ := hqa.mask
      refine hGq _ _ ?_
      clear hGq Gq
      have hmem : (q.d, q.o) ∈ led js ++ [(334, tabObj ps1), (pa, op)] := List.mem_append_left _ (mem_led (List.mem_of_getElem? hq))
      have G10 := G9'.up hle10
      wtm_at "zgo"
      refine ts_nil ?_
      refine ite_t rfl ?_
      wtm_at "zgo"
      refine nw_tupW (by rw [sizeLine_eq]; simp) fun b11 V11 hb11 lb11 => ?_
      wtm_at "zgo"
      refine ⟨hag.upd (by decide), hle10.trans lb11, rfl, ?_⟩
      rw [List.take_add_one, hrr]
      exact (hI.mono fun _ _ z => z.up lb11).snoc ⟨b11, _, _, _, _, rfl, hb11⟩
    · intro a10 o10 ys10 V10 X10 hle10 ho10 hyl10 hK16 ha10 hx10 Gq hGq
      obtain ⟨_, rfl, hI10⟩ := hK16
      refine hGq _ ?_
      clear hGq Gq
      rw [List.take_of_length_le (by omega)] at hI10
      wtm_at "zgo"
      have lb210 := lb3.trans (lb4.trans (lb49.trans hle10))
      refine co_eqr ⟨o10, .inr (.head _), ho10⟩ hI10 (hdl.up lb210).x (hdA.mono fun _ _ z => z.up lb210) hr'.eq ?_
      rw [decide_eq_true rfl]
      wtm_at "zgo"
      refine ⟨rfl, ps1, .tail _ (.tail _ (List.mem_append_right _ (.head _)))⟩
end
section -- F30
theorem fin_core {w : World} {s₁ : Shared} {mg mb : Str → Option Value} {p : Program} {loose : List Str} {mean : ExcName → Option Value} {fa l : Addr} {vs : List Value} {ns : List Int} {c : ClaimW} {cl : Str → Option Addr} {args : List WData}
    (T : Top p loose mean mg mb s₁.heap) (KX : (Mine.hd.heap_1 w.params).In s₁.heap) (hT : TabsAt [(336, 334)] s₁.heap) (hg : s₁.gens = #[]) (hmg : mg "law" = some (.ref fa)) (hL : s₁.heap.IsList l vs.toArray) (hI : IntsAre vs ns) (hz : ¬ (63 : Int) < (ns.length : Int))
    (hr : ∀ cls, c.raises args cls = false) (hp : c.post args (.bool true) args = true) :
    codeAny (model PG w) callerA (.call (.ref fa) ⟨[.ref l], []⟩) (GoodWG c cl mean args s₁) s₁ := by
  have hfa : fa = 347 := by
    have e : mg "law" = some (.ref 347) := mg_of KX T.g (by k_is)
    rw [hmg] at e
    cases e; rfl
  subst hfa
  have GW0 : GW w (Mine.hd.heap_1 w.params) (ghostOf s₁.heap [(336, 334)]).get? := ⟨_, _, _, _, mg, mb, ghost_K hT KX (by rfl), ghost_top hT T, fun a o e => e⟩
  have hC : CodeW (ghostOf s₁.heap [(336, 334)]).get? 336 334 := let ⟨o, vs, file, tf, flags, tg, inF, text, tt, e, h2, h3, h4, h5, h6, h7, h8, h9, h10⟩ := (ghost_code hT).1; ⟨o, vs, file, tf, flags, tg, inF, text, tt, e, h2, h3, h4, h5, h6, h7, h8, h9, h10⟩
  have S0 : St (ghostOf s₁.heap [(336, 334)]).get? [(334, tabObj #[])] s₁.heap := by
    refine ⟨fun a o e => of_hideAll _ e, fun a o m => ?_, fun a o m => ?_, by simp [adr]⟩ <;> (rw [List.mem_singleton] at m; cases m)
    · exact (hT _ (.head _)).2
    · exact hideAll_none _ (.head _)
  refine und fun Gq hGq => ?_
  obtain ⟨ol, el, cll, nl, dl⟩ := ghost_list hT hL
  refine hGq ?_
  clear hGq Gq
  have hl : LstW (ghostOf s₁.heap [(336, 334)]).get? l vs := ⟨ol, el, cll, nl, dl⟩
  have hrm : Room callerA 9 := ⟨rfl, by decide, by decide⟩
  refine codeAny_mono ((law_spec GW0 hrm hl hI (by omega) hC).run s₁ S0) fun r s' ⟨v, W', X', e, D, e2, ps, hps⟩ => ?_
  subst e; subst e2
  obtain ⟨h', tk, hs'⟩ := D.rest
  have hs' : s' = { s₁ with heap := h', toks := tk } := hs'
  refine ⟨.inl ⟨.bool true, .bool true, [], rfl, hr, .bool true, hp, fun _ => ⟨.nil, fun _ h => nomatch h⟩⟩, ⟨fun b o e => ?_, fun b o e => ?_⟩, by rw [hs'], .of_eq (by rw [hs']; exact hg)⟩
  · by_cases hb : b = 334
    · subst hb
      have h0 := (hT _ (.head _)).2
      rw [h0] at e
      cases e
      refine .inr (.inl ⟨((hT _ (.head _)).1.tab h0).isCodeTable, rfl, #[], ps, rfl, ?_⟩)
      have := D.st.x _ _ hps
      rw [this]; simp
    · exact .inl (D.keep b o e fun h => hb (by simpa [org, adr] using h))
  · by_cases hb : b = 334
    · subst hb; exact ⟨_, D.st.x _ _ hps⟩
    · exact ⟨o, D.keep b o e fun h => hb (by simpa [org, adr] using h)⟩
theorem fin : PySem.Challenge.rw_nu0174_01.Holds := by
  refine Mine.hd ?_
  k_fill
  intro w s₀ s₁ mg mb G Y fa o pm cd doc dV kV ho hd hcd hD hmg hg args vals as hpre hlay hrd hwl hlo
  have KX := km_in_of Y
  km_tabs Y
  refine Ground.open G ?_
  intro T B D TE TW
  km_lay T hmg ho hd cd
  wrow_args hpre hlay hrd hwl hlo
  refine enter_call ?_
  exact fin_core T KX hT9 hg hmg (by assumption) (by assumption) (by assumption) (fun _ => rfl) (by wrow_post)
end
end Mine
theorem PySem.Challenge.cw_nu0174_01_holds : PySem.Challenge.rw_nu0174_01.Holds := by
  exact Mine.fin
