import PyProof.Rows.All
import Wide.All
import OpenK.AllK
import Wide.FinOn
import PyProof.ForAny
import KE.KDictOf
import PySem.Challenge.RW_og0179_01
open PySem PySem.W PyProof.Rows PySem.Calls
set_option Elab.async false
set_option maxRecDepth 100000
namespace Mine
noncomputable section
/-- the run of the top over a tree of objects -/
def topRunT (tb : String → Option Builtin) (p : Program) (w : World) (n₀ : Nat) (ann : Option Value) : Nat → SharedT → Thread → Option SharedT
  | 0, _, _ => none
  | n + 1, s, t => match through t with
    | true => some s
    | false => match stepOk n₀ ann t with
      | false => none
      | true => match stepT (denote tb) p w s t with
        | some (s', t') => topRunT tb p w n₀ ann n s' t'
        | none => none
theorem topRunT_of {tb : String → Option Builtin} {p : Program} {w : World} {n₀ : Nat} {ann : Option Value} : ∀ {n : Nat} {s s' : SharedT} {t : Thread}, topRunT tb p w n₀ ann n s t = some s' → topRun tb p w n₀ ann n s.abs t = some s'.abs
  | 0, _, _, _, h => by cases h
  | n + 1, s, s', t, h => by
    unfold topRunT at h
    unfold topRun
    cases he : through t with
    | true => rw [he] at h; cases h; rfl
    | false =>
      rw [he] at h
      cases hk : stepOk n₀ ann t with
      | false => rw [hk] at h; cases h
      | true =>
        rw [hk] at h
        cases hs : stepT (denote tb) p w s t with
        | none => rw [hs] at h; cases h
        | some r => obtain ⟨s₂, t₂⟩ := r; rw [hs] at h; rw [stepT_spec hs]; exact topRunT_of h
def bootTree (P : Params) : BT := .node (boot_o_0 P) (.node (boot_o_1 P) (.node (boot_o_3 P) (.node (boot_o_7 P) .nil .nil) .nil) (.node (boot_o_5 P) (.node (boot_o_9 P) .nil .nil) .nil)) (.node (boot_o_2 P) (.node (boot_o_4 P) (.node (boot_o_8 P) .nil .nil) .nil) (.node (boot_o_6 P) (.node (boot_o_10 P) .nil .nil) .nil))
theorem bootTree_abs (P : Params) : absHeap (bootTree P) 11 {} = boot_heap P := by kernel_rfl
def bootT (w : World) (os : OsState) : SharedT := ⟨bootTree w.params, 11, {}, Array.mk [], boot_drawn, boot_toks, os⟩
theorem bootT_abs (w : World) (os : OsState) : (bootT w os).abs = ⟨boot_heap w.params, Array.mk [], boot_drawn, boot_toks, os⟩ := by
  unfold bootT SharedT.abs
  rw [bootTree_abs]
/-- a whole top from the boot in one check -/
theorem left_of {p q : Program} {loose : List Str} {Xt : Shared → Bool} {α : Type} {Yf : Shared → α} {Ya : World → α} {N M : Nat} {ann : Option Value}
    (open_ : ∀ w : World, (fencedOpening treeTable p w N).map (fun s => (s.heap, s.gens, s.drawn, s.toks)) = some (boot_heap w.params, Array.mk [], boot_drawn, boot_toks))
    (size : ∀ w : World, ((boot_heap w.params).isNs mainGlobals, (boot_heap w.params).objs.size, (boot_heap w.params).nsMap mainGlobals "__annotations__") = (true, 11, ann))
    (le : Nat.ble M N = true)
    (chk : ∀ w : World, (fun os => (topRunT treeTable p w 11 ann M (bootT w os) (topStub p)).map fun s =>
      ((staticsOk (importedModules p.main.body) (boot_heap w.params) s.abs.heap && namesBound p s.abs.heap && gensDone s.abs && laidKept (boot_heap w.params) s.abs.heap),
        openSeen q loose (importedModules p.main.body) Xt true s.abs, Yf s.abs)) = fun _ => some (true, openGood q loose, Ya w)) : LeftO p q loose Xt Yf Ya N := fun w => by
  obtain ⟨⟨h, gs, d, k, os⟩, e, e'⟩ := Option.map_eq_some_iff.mp (open_ w)
  obtain ⟨rfl, rfl, rfl, rfl⟩ : h = boot_heap w.params ∧ gs = Array.mk [] ∧ d = boot_drawn ∧ k = boot_toks := by simpa using e'
  obtain ⟨z1, z2, z3⟩ : _ ∧ _ ∧ _ := by simpa only [Prod.mk.injEq] using size w
  obtain ⟨sT, hr, hl⟩ := Option.map_eq_some_iff.mp (congrFun (chk w) os)
  obtain ⟨l1, l2, l3⟩ : _ ∧ _ ∧ _ := by simpa only [Prod.mk.injEq] using hl
  have r := topRunT_of hr
  rw [bootT_abs] at r
  have r := topRun_mono (N - M) _ _ _ _ r
  rw [show M + (N - M) = N by have := Nat.le_of_ble_eq_true le; omega] at r
  have t : topFrom treeTable p w N ⟨boot_heap w.params, Array.mk [], boot_drawn, boot_toks, os⟩ = some sT.abs := by
    unfold topFrom
    dsimp only
    rw [z1, z2, z3]
    show (topRun treeTable p w 11 ann N _ _).bind _ = _
    rw [r]
    show (match staticsOk (importedModules p.main.body) (boot_heap w.params) sT.abs.heap && namesBound p sT.abs.heap && gensDone sT.abs && laidKept (boot_heap w.params) sT.abs.heap with | true => _ | false => _) = _
    rw [l1]
  unfold openEnds
  rw [e]
  show (topFrom treeTable p w N _).map _ = _
  rw [t]
  exact congrArg some (Prod.ext l2 l3)
abbrev loose : List Str := [Str.ofString "PaperError", Str.ofString "told_objects"]
def viewQ : Program := view PySem.Challenge.pw_og0179_01 [0, 2, 3, 5, 6, 8, 9, 10, 11, 12, 13, 14, 15, 16, 17, 18, 20, 21, 22, 23, 24, 25, 26, 27, 28, 29, 30, 31, 32, 33, 34, 35, 37, 38, 39, 40, 41]
theorem openA : ∀ w : World, (fencedOpening treeTable PySem.Challenge.pw_og0179_01 w 7104).map (fun s => (s.heap, s.gens, s.drawn, s.toks)) = some (boot_heap w.params, Array.mk [], boot_drawn, boot_toks) :=
  boot_open (by kernel_rfl) (by decide) (fun s => by kernel_rfl)
theorem sizeA : ∀ w : World, ((boot_heap w.params).isNs mainGlobals, (boot_heap w.params).objs.size, (boot_heap w.params).nsMap mainGlobals "__annotations__") = (true, 11, some (Value.ref 6)) := fun w => by kernel_rfl
theorem saidA : PySem.Challenge.rw_og0179_01.wellSaid = true := by kernel_rfl
end
set_option compiler.extract_closed false
local macro_rules | `(tactic| o_law) => `(tactic| (refine holds_law saidA fun said => ?_))
local macro_rules | `(tactic| o_head $H:term) => do
  let hw := Lean.mkIdent `hw
  let hc := Lean.mkIdent `hc
  `(tactic| (
    refine holds_open (q := viewQ) (loose := loose) (Xt := fun s => xlAt viewQ [] s && recOk (RowW.records PySem.Challenge.rw_og0179_01.row.toRowW) s) (XP := XL viewQ []) (Yf := Hook.obs $H) (Ya := Hook.val $H) (YP := Hook.says $H) (N := 7104) (left_of (M := 6600) openA sizeA (by decide) fun w => by kernel_rfl) (Hook.of $H) (Hook.keeps $H) (fun s e => xl_of s (Bool.and_eq_true_iff.mp e).1) XL.keeps (by rfl) (by rfl) (by rfl) (fun s e => recFacts_of (Bool.and_eq_true_iff.mp e).2) (by rfl) (by first | assumption | decide +kernel) (by decide +kernel) ⟨rfl, rfl, rfl, rfl, rfl, by decide +kernel⟩ ?$hw ?$hc))
set_option maxHeartbeats 0 in
open_top hd for PySem.Challenge.rw_og0179_01

-- M1

abbrev Fz := Addr → Option Obj
abbrev OP := Obj → Prop
abbrev Led := List (Addr × OP)

def Fz.le (F F' : Fz) : Prop := ∀ b o, F b = some o → F' b = some o
theorem Fz.le.refl (F : Fz) : F.le F := fun _ _ e => e
theorem Fz.le.trans {F G H : Fz} (a : F.le G) (b : G.le H) : F.le H := fun x o e => b x o (a x o e)
def Fz.add (F : Fz) (a : Addr) (o : Obj) : Fz := fun b => if b = a then some o else F b
theorem Fz.le_add {F : Fz} {a : Addr} {o : Obj} (h : F a = none) : F.le (F.add a o) := fun b x e => by
  unfold Fz.add
  by_cases q : b = a
  · rw [q, h] at e; cases e
  · rw [if_neg q]; exact e
theorem Fz.add_self (F : Fz) (a : Addr) (o : Obj) : F.add a o a = some o := by unfold Fz.add; rw [if_pos rfl]
theorem Fz.add_ne (F : Fz) {a b : Addr} (o : Obj) (h : b ≠ a) : F.add a o b = F b := by unfold Fz.add; rw [if_neg h]
/-- F grew to F' by new objects alone -/
def Grow (n : Nat) (F F' : Fz) : Prop := F.le F' ∧ ∀ b, b < n → F b = none → F' b = none
theorem Grow.refl (n : Nat) (F : Fz) : Grow n F F := ⟨Fz.le.refl F, fun _ _ e => e⟩
theorem Grow.trans {n n' : Nat} {F G H : Fz} (a : Grow n F G) (b : Grow n' G H) (h : n ≤ n') : Grow n F H :=
  ⟨a.1.trans b.1, fun x hx e => b.2 x (Nat.lt_of_lt_of_le hx h) (a.2 x hx e)⟩
theorem Grow.mono {n n' : Nat} {F G : Fz} (a : Grow n' F G) (h : n ≤ n') : Grow n F G := ⟨a.1, fun x hx e => a.2 x (Nat.lt_of_lt_of_le hx h) e⟩

/-- what is known of the program's top -/
structure Gl (K : Frag) (h : Heap) : Prop where
  k : K.In h
  t : ∃ p loose mg mb, TopRead p loose mg mb h
theorem Gl.keeps {K : Frag} {h h' : Heap} (G : Gl K h) (k : ∀ b o, h.get? b = some o → h'.get? b = some o) : Gl K h' :=
  ⟨G.k.keeps k, let ⟨p, l, mg, mb, t⟩ := G.t; ⟨p, l, mg, mb, t.keeps k⟩⟩

def NsO (m : Str → Option Value) : OP := fun o => ∃ es ep, o.data = .dict es ep ∧ StrKeys es ∧ ∀ name, nsFind es name = m name
theorem ns_iff {h : Heap} {a : Addr} {m : Str → Option Value} : h.Ns a m ↔ ∃ o, h.get? a = some o ∧ NsO m o :=
  ⟨fun ⟨o, es, ep, ho, r⟩ => ⟨o, ho, es, ep, r⟩, fun ⟨o, ho, es, ep, r⟩ => ⟨o, es, ep, ho, r⟩⟩
def CellO (v : Option Value) : OP := fun o => o.data = .cell v
def ListO (xs : List Value) : OP := fun o => ∃ n, o = { cls := .type "list", dict := none, data := .seq xs.toArray n, slots := #[] }
def TupO (xs : List Value) : OP := fun o => ∃ n, o = { cls := .type "tuple", dict := none, data := .seq xs.toArray n, slots := #[] }

/-- the state of a call at hand: s₀ at its entry, X what of the entry's it may change, F what is frozen, N the ledger -/
structure At (K : Frag) (s₀ : Shared) (X : List Addr) (F : Fz) (N : Led) (s : Shared) : Prop where
  top : ∃ h₀, Gl K h₀ ∧ ∀ b o, h₀.get? b = some o → F b = some o
  rest : s.gens = s₀.gens ∧ s.os = s₀.os ∧ s.os = s₀.os
  size : s₀.heap.objs.size ≤ s.heap.objs.size
  ext : ∀ b o, s₀.heap.get? b = some o → b ∉ X → s.heap.get? b = some o
  fz : ∀ b o, F b = some o → s.heap.get? b = some o
  news : ∀ p ∈ N, (∃ o, s.heap.get? p.1 = some o ∧ p.2 o) ∧ F p.1 = none ∧ (s₀.heap.objs.size ≤ p.1 ∨ p.1 ∈ X)
  nodup : (N.map (·.1)).Nodup

section
variable {K : Frag} {s₀ s : Shared} {X : List Addr} {F : Fz} {N : Led}

theorem At.gl (S : At K s₀ X F N s) : Gl K s.heap := let ⟨_, g, k⟩ := S.top; g.keeps fun b o e => S.fz b o (k b o e)
theorem At.toks (S : At K s₀ X F N s) (t : Nat) : At K s₀ X F N { s with toks := t } := ⟨S.top, S.rest, S.size, S.ext, S.fz, S.news, S.nodup⟩
theorem At.get (S : At K s₀ X F N s) {a : Addr} {P : OP} (h : (a, P) ∈ N) : ∃ o, s.heap.get? a = some o ∧ P o := (S.news _ h).1
theorem At.get0 (S : At K s₀ X F N s) {i : Nat} {a : Addr} {P : OP} (h : N[i]? = some (a, P)) : ∃ o, s.heap.get? a = some o ∧ P o := S.get (List.mem_of_getElem? h)
theorem At.lt (S : At K s₀ X F N s) {p : Addr × OP} (h : p ∈ N) : p.1 < s.heap.objs.size := let ⟨⟨_, e, _⟩, _⟩ := S.news _ h; Heap.lt_size e
theorem At.fresh (S : At K s₀ X F N s) {a : Addr} (h : s.heap.objs.size ≤ a) : F a = none := by
  cases q : F a with
  | none => rfl
  | some o => exact absurd (Heap.lt_size (S.fz _ _ q)) (Nat.not_lt.mpr h)
theorem At.nofrz (S : At K s₀ X F N s) {a : Addr} {P : OP} (h : (a, P) ∈ N) : F a = none := (S.news _ h).2.1

/-- a step that only adds objects -/
theorem At.grow (S : At K s₀ X F N s) {h' : Heap} {t : Nat} (hs : s.heap.objs.size ≤ h'.objs.size) (k : ∀ b o, s.heap.get? b = some o → h'.get? b = some o) : At K s₀ X F N { s with heap := h', toks := t } :=
  ⟨S.top, S.rest, Nat.le_trans S.size hs, fun b o e n => k b o (S.ext b o e n), fun b o e => k b o (S.fz b o e), fun p hp => let ⟨⟨o, e, q⟩, r⟩ := S.news p hp; ⟨⟨o, k _ _ e, q⟩, r⟩, S.nodup⟩
/-- one more entry, of a new object -/
theorem At.more (S : At K s₀ X F N s) {a : Addr} {P : OP} (h : ∃ o, s.heap.get? a = some o ∧ P o) (hF : F a = none) (hN : a ∉ N.map (·.1)) (hx : s₀.heap.objs.size ≤ a ∨ a ∈ X) : At K s₀ X F ((a, P) :: N) s :=
  ⟨S.top, S.rest, S.size, S.ext, S.fz, fun p hp => by rcases List.mem_cons.mp hp with rfl | hp; exact ⟨h, hF, hx⟩; exact S.news p hp, by rw [List.map_cons, List.nodup_cons]; exact ⟨hN, S.nodup⟩⟩
theorem At.off (S : At K s₀ X F N s) {a : Addr} (h : s.heap.objs.size ≤ a) : a ∉ N.map (·.1) := fun hm => by
  obtain ⟨p, hp, rfl⟩ := List.mem_map.mp hm
  exact absurd (S.lt hp) (Nat.not_lt.mpr h)
theorem At.push (S : At K s₀ X F N s) {o : Obj} {P : OP} {t : Nat} (hP : P o) (hfree : o.isFreed = false) : At K s₀ X F ((s.heap.objs.size, P) :: N) { s with heap := s.heap.push o, toks := t } :=
  (S.grow (h' := s.heap.push o) (t := t) (by rw [Heap.size_push]; lia) (fun b o' e => Heap.get?_push_of_some _ e)).more ⟨o, Heap.get?_push_size _ hfree, hP⟩ (S.fresh (Nat.le_refl _)) (S.off (Nat.le_refl _)) (.inl S.size)
theorem At.of_eq {s' : Shared} (S : At K s₀ X F N s) (e : s = s') : At K s₀ X F N s' := e ▸ S
theorem At.ren {N' : Led} (S : At K s₀ X F N s) (e : N = N') : At K s₀ X F N' s := e ▸ S
theorem At.sub {N' : Led} (S : At K s₀ X F N s) (h : ∀ p ∈ N', p ∈ N) (hn : (N'.map (·.1)).Nodup) : At K s₀ X F N' s := ⟨S.top, S.rest, S.size, S.ext, S.fz, fun p hp => S.news p (h p hp), hn⟩
theorem At.sublist {N' : Led} (S : At K s₀ X F N s) (h : N'.Sublist N) : At K s₀ X F N' s := S.sub (fun p hp => h.subset hp) ((h.map _).nodup S.nodup)
theorem At.perm {N' : Led} (S : At K s₀ X F N s) (h : N'.Perm N) : At K s₀ X F N' s := S.sub (fun p hp => h.subset hp) ((h.map _).nodup_iff.mpr S.nodup)
theorem At.tail {p : Addr × OP} (S : At K s₀ X F (p :: N) s) : At K s₀ X F N s := S.sublist (List.sublist_cons_self _ _)
theorem At.drop (n : Nat) (S : At K s₀ X F N s) : At K s₀ X F (N.drop n) s := S.sublist (List.drop_sublist _ _)
theorem At.eraseIdx (n : Nat) (S : At K s₀ X F N s) : At K s₀ X F (N.eraseIdx n) s := S.sublist (List.eraseIdx_sublist _ _)

/-- entry i is changed -/
theorem At.set (S : At K s₀ X F N s) {i : Nat} {a : Addr} {P P' : OP} {h' : Heap} {t : Nat} (hi : N[i]? = some (a, P)) (hs : Heap.SameBut a s.heap h') (h : ∃ o, h'.get? a = some o ∧ P' o) :
    At K s₀ X F (N.set i (a, P')) { s with heap := h', toks := t } := by
  have hm := List.mem_of_getElem? hi
  have A := S.news _ hm
  have hlt : i < N.length := (List.getElem?_eq_some_iff.mp hi).1
  have hmap : (N.set i (a, P')).map (·.1) = N.map (·.1) := by
    rw [List.map_set]
    apply List.ext_getElem?
    intro j
    rw [List.getElem?_set]
    by_cases q : i = j
    · subst q
      have e : i < (N.map (·.1)).length := by simpa using hlt
      rw [if_pos rfl, if_pos e, List.getElem?_map, hi]; rfl
    · rw [if_neg q]
  refine ⟨S.top, S.rest, by rw [hs.1]; exact S.size, fun b o e n => ?_, fun b o e => ?_, fun p hp => ?_, by rw [hmap]; exact S.nodup⟩
  · refine (hs.2 b fun q => ?_).trans (S.ext b o e n)
    subst q
    rcases A.2.2 with r | r
    · exact absurd (Heap.lt_size e) (Nat.not_lt.mpr r)
    · exact n r
  · refine (hs.2 b fun q => ?_).trans (S.fz b o e)
    subst q; rw [A.2.1] at e; cases e
  · obtain ⟨j, hj⟩ := List.mem_iff_getElem?.mp hp
    rw [List.getElem?_set] at hj
    by_cases q : i = j
    · subst q
      rw [if_pos rfl, if_pos hlt] at hj
      cases hj
      exact ⟨h, A.2⟩
    · rw [if_neg q] at hj
      have hpm := List.mem_of_getElem? hj
      obtain ⟨⟨o, e, r⟩, x⟩ := S.news p hpm
      refine ⟨⟨o, (hs.2 _ fun z => q ?_).trans e, r⟩, x⟩
      have h1 : (N.map (·.1))[i]? = some a := by rw [List.getElem?_map, hi]; rfl
      have h2 : (N.map (·.1))[j]? = some a := by rw [List.getElem?_map, hj]; exact congrArg some z
      have hj' : j < (N.map (·.1)).length := (List.getElem?_eq_some_iff.mp h2).1
      exact (List.getElem?_inj (by simpa using hlt) S.nodup).mp (h1.trans h2.symm)
/-- the head entry is changed -/
theorem At.put {a : Addr} {P P' : OP} {h' : Heap} {t : Nat} (S : At K s₀ X F ((a, P) :: N) s) (hs : Heap.SameBut a s.heap h') (h : ∃ o, h'.get? a = some o ∧ P' o) :
    At K s₀ X F ((a, P') :: N) { s with heap := h', toks := t } := S.set (i := 0) rfl hs h
theorem At.weak (S : At K s₀ X F N s) {i : Nat} {a : Addr} {P P' : OP} (hi : N[i]? = some (a, P)) (h : ∀ o, P o → P' o) : At K s₀ X F (N.set i (a, P')) s :=
  let ⟨o, e, p⟩ := S.get0 hi
  S.set (h' := s.heap) (t := s.toks) hi (Heap.SameBut.refl _ _) ⟨o, e, h o p⟩
theorem At.weak0 {a : Addr} {P P' : OP} (S : At K s₀ X F ((a, P) :: N) s) (h : ∀ o, P o → P' o) : At K s₀ X F ((a, P') :: N) s := S.weak (i := 0) rfl h

/-- the head entry is frozen -/
theorem At.freeze {a : Addr} {P : OP} (S : At K s₀ X F ((a, P) :: N) s) (ha : s₀.heap.objs.size ≤ a) : ∃ o, P o ∧ F a = none ∧ Grow s₀.heap.objs.size F (F.add a o) ∧ At K s₀ X (F.add a o) N s := by
  obtain ⟨⟨o, e, hp⟩, hF, hx⟩ := S.news _ (.head _)
  have hn := S.nodup
  rw [List.map_cons, List.nodup_cons] at hn
  refine ⟨o, hp, hF, ⟨Fz.le_add hF, fun b hb hb' => ?_⟩, ⟨?_, S.rest, S.size, S.ext, fun b o' e' => ?_, fun p hp' => ?_, hn.2⟩⟩
  · rw [Fz.add_ne F o (fun q => absurd hb (by subst q; exact Nat.not_lt.mpr ha))]; exact hb'
  · obtain ⟨h₀, g, k⟩ := S.top
    exact ⟨h₀, g, fun b o' e' => Fz.le_add hF _ _ (k b o' e')⟩
  · by_cases q : b = a
    · subst q; rw [Fz.add_self] at e'; cases e'; exact e
    · rw [Fz.add_ne F o q] at e'; exact S.fz b o' e'
  · obtain ⟨x, y, z⟩ := S.news p (.tail _ hp')
    refine ⟨x, ?_, z⟩
    rw [Fz.add_ne F o fun q => hn.1 (by rw [← q]; exact List.mem_map.mpr ⟨p, hp', rfl⟩)]; exact y

/-- the caller's state behind a call -/
theorem At.back {U V N' R : Led} {X' : List Addr} {F' : Fz} {s' : Shared} (S : At K s₀ X F (U ++ V) s) (C : At K s X' F' N' s') (G : Grow s.heap.objs.size F F')
    (hX : ∀ a ∈ X', a ∈ U.map (·.1)) (hR : ∀ p ∈ R, p ∈ N') (hn : (R.map (·.1)).Nodup) : At K s₀ X F' (R ++ V) s' := by
  have hnd := S.nodup
  rw [List.map_append, List.nodup_append] at hnd
  obtain ⟨nU, nV, dUV⟩ := hnd
  have xU : ∀ a ∈ X', s₀.heap.objs.size ≤ a ∨ a ∈ X := fun a ha => by
    obtain ⟨p, hp, rfl⟩ := List.mem_map.mp (hX a ha)
    exact (S.news p (List.mem_append_left _ hp)).2.2
  refine ⟨C.top, ⟨C.rest.1.trans S.rest.1, C.rest.2.1.trans S.rest.2.1, C.rest.2.2.trans S.rest.2.2⟩, Nat.le_trans S.size C.size, fun b o e n => ?_, C.fz, fun p hp => ?_, ?_⟩
  · refine C.ext b o (S.ext b o e n) fun hb => ?_
    rcases xU b hb with r | r
    · exact absurd (Heap.lt_size e) (Nat.not_lt.mpr r)
    · exact n r
  · rcases List.mem_append.mp hp with hp | hp
    · obtain ⟨a, b, c⟩ := C.news p (hR p hp)
      refine ⟨a, b, ?_⟩
      rcases c with c | c
      · exact .inl (Nat.le_trans S.size c)
      · exact xU _ c
    · obtain ⟨⟨o, e, q⟩, b, c⟩ := S.news p (List.mem_append_right _ hp)
      refine ⟨⟨o, C.ext _ _ e fun hb => ?_, q⟩, G.2 _ (Heap.lt_size e) b, c⟩
      exact dUV _ (hX _ hb) _ (List.mem_map.mpr ⟨p, hp, rfl⟩) rfl
  · rw [List.map_append, List.nodup_append]
    refine ⟨hn, nV, fun a ha b hb e => ?_⟩
    subst e
    obtain ⟨p, hp, rfl⟩ := List.mem_map.mp ha
    obtain ⟨q, hq, e⟩ := List.mem_map.mp hb
    have hlt := S.lt (List.mem_append_right _ hq)
    rcases (C.news p (hR p hp)).2.2 with c | c
    · exact absurd hlt (by rw [e]; exact Nat.not_lt.mpr c)
    · exact dUV _ (hX _ c) _ hb rfl
/-- the same, where the call changes nothing of the caller's -/
theorem At.back0 {N' R : Led} {F' : Fz} {s' : Shared} (S : At K s₀ X F N s) (C : At K s [] F' N' s') (G : Grow s.heap.objs.size F F')
    (hR : ∀ p ∈ R, p ∈ N') (hn : (R.map (·.1)).Nodup) : At K s₀ X F' (R ++ N) s' := At.back (U := []) S C G (fun _ h => nomatch h) hR hn
end

/-- room for k more frames -/
structure Rm (A : Around) (k : Nat) : Prop where
  h : A.handled = none
  d : A.depth + k < recursionLimit
  u : A.units + 8 * k + 8 < cLine
theorem Rm.mono {A : Around} {k k' : Nat} (r : Rm A k) (h : k' ≤ k) : Rm A k' := ⟨r.h, by have := r.d; lia, by have := r.u; lia⟩
theorem Rm.deeper {A : Around} {k : Nat} (r : Rm A (k + 1)) (env : Env) : Rm (A.deeper env) k := ⟨r.h, by have := r.d; show A.depth + 1 + k < _; lia, by have := r.u; show A.units + 3 + 8 * k + 8 < _; lia⟩
theorem Rm.in1 {A : Around} {k : Nat} (r : Rm A (k + 1)) : Rm A.in1 k := ⟨r.h, by have := r.d; show A.depth + k < _; lia, by have := r.u; show A.units + 1 + 8 * k + 8 < _; lia⟩
theorem Rm.room {A : Around} {k : Nat} (r : Rm A k) : A.depth < recursionLimit := by have := r.d; lia
theorem Rm.units {A : Around} {k : Nat} (r : Rm A k) : A.units < cLine := by have := r.u; lia

section
variable {prog : Program} {w : World} {A : Around} {K : Frag} {s₀ s : Shared} {X : List Addr} {F : Fz} {N : Led} {Q : Value → Shared → Prop} {E : Value → Shared → Prop}
/-- a call of one of the text's own defs (no cells) is entered -/
theorem enter {name qual : Str} {params : Arguments} {body : List Stmt} {scope : Scope} {dV kV doc pm cdv ct oc : Value} {an od : Option Addr} {osl : Array (Option Value)} {f : Addr} {args : List Value} {binds : List (Str × Value)} {U : Led} {k : Nat}
    (S : At K s₀ X F N s) (hm : Rm A (k + 1)) (hU : ∀ p ∈ U, p ∈ N) (hUn : (U.map (·.1)).Nodup)
    (ho : K.lookup f = some ⟨oc, od, .func (fnOf name qual params body scope dV kV doc pm an cdv ct), osl⟩) (hcd : codeIn K cdv qual = true)
    (hbind : BindsTo s (fnOf name qual params body scope dV kV doc pm an cdv ct) ⟨args, []⟩ binds) (hloc : ∀ y ∈ binds, scope.names.lookup y.1 = some .local)
    (hcell : ∀ x ∈ scope.names, x.2 ≠ .cell)
    (h : ∀ L s', s.heap.objs.size ≤ L → At K s (U.map (·.1)) F ((L, NsO fun x => binds.reverse.lookup x) :: U) s' → Rm (A.deeper (envX qual scope L f cdv [])) k →
      wpAny (model prog w) (A.deeper (envX qual scope L f cdv [])) (execs body (envX qual scope L f cdv []))
        (fun fl s'' => Q (match fl with | .ret v => v | _ => .none) s'') (fun _ _ => False) s')
    (hco : scope.isCoroutine = false := by rfl) (hgen : scope.isGenerator = false := by rfl) (hk : scope.kind = .function := by rfl) :
    wpAny (model prog w) A (call (.ref f) args) Q E s := by
  have G := S.gl
  obtain ⟨p, loose, mg, mb, T⟩ := G.t
  refine wpAny_call (codeAny_call_def (fd := fnOf name qual params body scope dV kV doc pm an cdv ct) (body := body) (binds := binds) hm.room (G.k _ _ ho) rfl T.nolimit (codeRec_of G.k hcd) rfl hbind hcell hloc (fun h₁ hns hk₁ => ?_) hco hgen hk)
  refine wpAny_mono (h s.heap.objs.size { s with heap := h₁, toks := s.toks + binds.length } (Nat.le_refl _) ?_ (hm.deeper _)) (fun _ _ q => q) (fun _ _ q => q.elim)
  obtain ⟨oL, hL, PL⟩ := ns_iff.mp hns
  refine ⟨?_, ⟨rfl, rfl, rfl⟩, Nat.le_of_lt (Heap.lt_size hL), fun b o e _ => hk₁ b o e, fun b o e => hk₁ b o (S.fz b o e), fun q hq => ?_, ?_⟩
  · exact S.top
  · rcases List.mem_cons.mp hq with rfl | hq
    · exact ⟨⟨oL, hL, PL⟩, S.fresh (Nat.le_refl _), .inl (Nat.le_refl _)⟩
    · obtain ⟨⟨o, e, r⟩, b, _⟩ := S.news q (hU q hq)
      exact ⟨⟨o, hk₁ _ _ e, r⟩, b, .inr (List.mem_map.mpr ⟨q, hq, rfl⟩)⟩
  · rw [List.map_cons, List.nodup_cons]
    refine ⟨fun hx => ?_, hUn⟩
    obtain ⟨q, hq, e⟩ := List.mem_map.mp hx
    have := S.lt (hU q hq)
    rw [e] at this
    exact Nat.lt_irrefl _ this
end

-- M2

theorem itT {a b : Prop} (h : a) : (if true = true then a else b) := by rw [if_pos rfl]; exact h
theorem itF {a b : Prop} (h : b) : (if false = true then a else b) := by rw [if_neg Bool.false_ne_true]; exact h
theorem itNF {a b : Prop} (h : a) : (if (!false) = true then a else b) := h
theorem itNT {a b : Prop} (h : b) : (if (!true) = true then a else b) := h
/-- where an object is known: in the ledger or frozen -/
def Here (F : Fz) (N : Led) (a : Addr) (P : OP) : Prop := (a, P) ∈ N ∨ ∃ o, F a = some o ∧ P o
def Has (F : Fz) (a : Addr) (P : OP) : Prop := ∃ o, F a = some o ∧ P o
theorem Has.mono {F F' : Fz} {a : Addr} {P : OP} (h : Has F a P) (l : F.le F') : Has F' a P := let ⟨o, e, p⟩ := h; ⟨o, l _ _ e, p⟩
theorem Has.here {F : Fz} {N : Led} {a : Addr} {P : OP} (h : Has F a P) : Here F N a P := .inr h
theorem At.here {K : Frag} {s₀ s : Shared} {X : List Addr} {F : Fz} {N : Led} {a : Addr} {P : OP} (S : At K s₀ X F N s) (h : Here F N a P) : ∃ o, s.heap.get? a = some o ∧ P o := by
  rcases h with h | ⟨o, e, p⟩
  · exact S.get h
  · exact ⟨o, S.fz _ _ e, p⟩
def InstO (C dx : Addr) : OP := fun o => ∃ sl, o = ⟨.ref C, some dx, .plain, sl⟩
def AttrsO (l : List (Str × Value)) : OP := fun o => ∃ es n, o = dictOf es n ∧ es.length ≤ 500 ∧ ∀ name, getL name es = some (l.lookup name)
/-- an instance whose attributes are l -/
def Inst (F : Fz) (N : Led) (x C : Addr) (l : List (Str × Value)) : Prop := ∃ dx, Here F N x (InstO C dx) ∧ Here F N dx (AttrsO l)
def InstF (F : Fz) (x C : Addr) (l : List (Str × Value)) : Prop := ∃ dx, Has F x (InstO C dx) ∧ Has F dx (AttrsO l)
theorem InstF.inst {F : Fz} {N : Led} {x C : Addr} {l : List (Str × Value)} (h : InstF F x C l) : Inst F N x C l := let ⟨dx, a, b⟩ := h; ⟨dx, .inr a, .inr b⟩
theorem InstF.mono {F F' : Fz} {x C : Addr} {l : List (Str × Value)} (h : InstF F x C l) (g : F.le F') : InstF F' x C l := let ⟨dx, a, b⟩ := h; ⟨dx, a.mono g, b.mono g⟩

section
variable {prog : Program} {w : World} {A : Around} {K : Frag} {s₀ s : Shared} {X : List Addr} {F : Fz} {N : Led} {Q : Value → Shared → Prop} {E : Value → Shared → Prop} {env : Env}

theorem nmL {i : Nat} {m : Str → Option Value} {x : Str} {pos : Pos} {v : Value} (S : At K s₀ X F N s) (hi : N[i]? = some (env.locals, NsO m)) (hv : m x = some v) (h : Q v s)
    (hk : env.scope.kind = .function := by rfl) (hl : env.kindOf x = some .local := by rfl) (hd : (x == ("__debug__" : Str)) = false := by decide) :
    wpAny (model prog w) A (eval (.Name x pos) env) Q E s :=
  wpAny_Name (wpAny_loadName_local hk hl (ns_iff.mpr (S.get0 hi)) hv h) hd
theorem nmG {x : Str} {pos : Pos} {v : Value} (S : At K s₀ X F N s) (e : nsIn K mainGlobals x = some (some v)) (h : Q v s) (hg : env.globals = mainGlobals := by rfl)
    (hk : env.scope.kind = .function := by rfl) (hl : env.kindOf x = some .globalImplicit := by rfl) (hd : (x == ("__debug__" : Str)) = false := by decide) :
    wpAny (model prog w) A (eval (.Name x pos) env) Q E s := by
  obtain ⟨p, l, mg, mb, T⟩ := S.gl.t
  exact Name_function_global hk hl (loadGlobal_global (env := env) (hg ▸ T.g) (mg_of S.gl.k T.g e) h) hd
theorem nmB {x : Str} {pos : Pos} {v : Value} (S : At K s₀ X F N s) (e : nsIn K mainGlobals x = some none) (hv : bootBuiltins x = some v) (h : Q v s) (hg : env.globals = mainGlobals := by rfl)
    (hb : env.builtins = builtinsNs := by rfl) (hn : x ≠ "__name__" := by decide)
    (hk : env.scope.kind = .function := by rfl) (hl : env.kindOf x = some .globalImplicit := by rfl) (hd : (x == ("__debug__" : Str)) = false := by decide) :
    wpAny (model prog w) A (eval (.Name x pos) env) Q E s := by
  obtain ⟨p, l, mg, mb, T⟩ := S.gl.t
  exact Name_function_global hk hl (loadGlobal_builtin (env := env) (hg ▸ T.g) (mg_none_of S.gl.k T.g e) (hb ▸ T.b) ((T.builtins x hn).trans hv) h) hd
theorem nmC {x : Str} {pos : Pos} {v : Value} {c : Addr} (S : At K s₀ X F N s) (hc : env.cells.lookup x = some c) (hv : Here F N c (CellO (some v))) (h : Q v s)
    (hk : env.scope.kind = .function := by rfl) (hl : env.kindOf x = some .cell := by rfl) (hd : (x == ("__debug__" : Str)) = false := by decide) :
    wpAny (model prog w) A (eval (.Name x pos) env) Q E s := wpAny_Name (wpAny_loadName_cell hk hl hc (S.here hv) h) hd

theorem stL {m : Str → Option Value} {x : Str} {v : Value} {Q : Unit → Shared → Prop} (S : At K s₀ X F ((env.locals, NsO m) :: N) s)
    (h : ∀ s', At K s₀ X F ((env.locals, NsO fun y => if y = x then some v else m y) :: N) s' → Q () s')
    (hk : env.scope.kind = .function := by rfl) (hl : env.kindOf x = some .local := by rfl) : wpAny (model prog w) A (storeName env x v) Q E s :=
  wpAny_storeName_local hl (ns_iff.mpr (S.get (.head _))) (fun _ hn hs => h _ (S.put hs (ns_iff.mp hn)))
    (by rw [hk]; rfl)
theorem stC {x : Str} {v : Value} {c : Addr} {v₀ : Option Value} {i : Nat} {Q : Unit → Shared → Prop} (S : At K s₀ X F N s) (hc : env.cells.lookup x = some c) (hi : N[i]? = some (c, CellO v₀))
    (h : ∀ s', At K s₀ X F (N.set i (c, CellO (some v))) s' → Q () s')
    (hk : env.scope.kind = .function := by rfl) (hl : env.kindOf x = some .cell := by rfl) : wpAny (model prog w) A (storeName env x v) Q E s :=
  wpAny_storeName_cell hk hl hc (S.get0 hi) fun _ hv hs => h _ (S.set (t := s.toks) hi hs hv)

theorem inst_at (S : At K s₀ X F N s) {x C : Addr} {l : List (Str × Value)} (I : Inst F N x C l) : ∃ dx sl es n, InstAt s.heap x ⟨.ref C, some dx, .plain, sl⟩ C (some (dictOf es n)) ∧ es.length ≤ 500 ∧ ∀ name, getL name es = some (l.lookup name) := by
  obtain ⟨dx, hx, hdx⟩ := I
  obtain ⟨_, e1, sl, rfl⟩ := S.here hx
  obtain ⟨_, e2, es, n, rfl, hz, hl⟩ := S.here hdx
  exact ⟨dx, sl, es, n, ⟨e1, rfl, rfl, e2⟩, hz, hl⟩
theorem atGet {x C : Addr} {l : List (Str × Value)} {name : Str} {v : Value} {expr : Bool} (S : At K s₀ X F N s) (I : Inst F N x C l) (hl : l.lookup name = some v) (hg : plainGet K C name = true) (hh : hasDictIn K C = true)
    (ha : findIn K (.ref C) name = some none) (hv : handedIn v = true) (h : ∀ s', At K s₀ X F N s' → Q v s') :
    wpAny (model prog w) A (getAttr (.ref x) name expr) Q E s := by
  obtain ⟨dx, sl, es, n, I, _, hL⟩ := inst_at S I
  exact get_value S.gl.k I (plainGet_of hg).1 (findObj_own hh ha rfl (by rw [lookIn_dict, hL, hl])) hv (h _ (S.toks _))
theorem atMeth {x C f : Addr} {l : List (Str × Value)} {name : Str} {pl : Sem Bool} {Q : Value × List Value → Shared → Prop} (S : At K s₀ X F N s) (I : Inst F N x C l) (hl : l.lookup name = none) (hg : plainGet K C name = true)
    (hf : findIn K (.ref C) name = some (some (.ref f))) (ht : isFn K (.ref f) = true) (h : Q (.ref f, [.ref x]) s) : wpAny (model prog w) A (getMethod (.ref x) name pl) Q E s := by
  obtain ⟨dx, sl, es, n, I, _, hL⟩ := inst_at S I
  exact method_fn S.gl.k I (plainGet_of hg).1 (plainGet_of hg).2 hf (beq_iff_eq.mp ht) (by show (lookIn name (dictOf es n)).map _ = _; rw [lookIn_dict, hL, hl]; rfl) h
theorem At.kin (S : At K s₀ X F N s) : K.In s.heap := S.gl.k
theorem cStr {x : Str} {k : Nat} {pos : Pos} (S : At K s₀ X F N s) (h : ∀ t s', At K s₀ X F N s' → Q (.str x t) s') : wpAny (model prog w) A (eval (.Constant (.str x) k pos) env) Q E s := Calls.Constant_str (h _ _ (S.toks _))
theorem cInt {x : Int} {k : Nat} {pos : Pos} (S : At K s₀ X F N s) (h : ∀ t s', At K s₀ X F N s' → Q (.int x t) s') : wpAny (model prog w) A (eval (.Constant (.int x) k pos) env) Q E s := wpAny_Constant_int (h _ _ (S.toks _))
theorem mkTup {vs : List Value} (S : At K s₀ X F N s) (hsz : vs.length ≤ sizeLine) (h : ∀ a s', s₀.heap.objs.size ≤ a → At K s₀ X F ((a, TupO vs) :: N) s' → Q (.ref a) s') : wpAny (model prog w) A (newTuple vs) Q E s :=
  wpAny_newTuple (h _ _ S.size (S.push (t := s.toks) ⟨0, rfl⟩ rfl)) hsz
theorem mkList {vs : List Value} (S : At K s₀ X F N s) (hsz : vs.length ≤ sizeLine) (h : ∀ a s', s₀.heap.objs.size ≤ a → At K s₀ X F ((a, ListO vs) :: N) s' → Q (.ref a) s') : wpAny (model prog w) A (newList vs) Q E s :=
  wpAny_newList (h _ _ S.size (S.push (t := s.toks) ⟨0, rfl⟩ rfl)) hsz
theorem At.ret {F' : Fz} {N' : Led} {s' : Shared} (S : At K s₀ X F N s) (C : At K s [] F' N' s') (G : Grow s.heap.objs.size F F') : At K s₀ X F' N s' := At.back0 (R := []) S C G (fun _ h => nomatch h) .nil
theorem At.ret0 {N' : Led} {s' : Shared} (S : At K s₀ X F N s) (C : At K s [] F N' s') : At K s₀ X F N s' := S.ret C (Grow.refl _ _)
end

-- M3

abbrev NoE : Value → Shared → Prop := fun _ _ => False
theorem ofNoE {α : Type} {M : Model} {A : Around} {t : Sem α} {Q : α → Shared → Prop} {E : Value → Shared → Prop} {s : Shared} (h : wpAny M A t Q NoE s) : wpAny M A t Q E s := wpAny_mono h (fun _ _ q => q) fun _ _ f => f.elim

def ListIterO (l : Addr) (i : Nat) : OP := fun o => o.cls = .type "list_iterator" ∧ o.data = .fields #[.ref l, .int i 0]
def RangeO (a b c : Int) : OP := fun o => ∃ t u v, o = { cls := .type "range", dict := none, data := .fields #[.int a t, .int b u, .int c v], slots := #[] }
def RangeIterO (x left step : Int) : OP := fun o => o = { cls := .type "range_iterator", dict := none, data := .fields #[rawInt x, rawInt left, rawInt step], slots := #[] }

section
variable {prog : Program} {w : World} {A : Around} {K : Frag} {s₀ s : Shared} {X : List Addr} {F : Fz} {N : Led} {E : Value → Shared → Prop} {env : Env}

theorem At.isList (S : At K s₀ X F N s) {l : Addr} {xs : List Value} (h : Here F N l (ListO xs)) : s.heap.IsList l xs.toArray := by
  obtain ⟨o, e, n, rfl⟩ := S.here h
  exact ⟨_, e, rfl, n, rfl⟩
/-- a step that may change the iterator it alone, and adds objects -/
theorem At.extBut {a : Addr} {P : OP} {h' : Heap} {t : Nat} (S : At K s₀ X F ((a, P) :: N) s) (ha : s₀.heap.objs.size ≤ a) (hs : Heap.ExtBut a s.heap h') (hN : ∃ p ∈ N, s₀.heap.objs.size ≤ p.1) : At K s₀ X F N { s with heap := h', toks := t } := by
  have hn := S.nodup
  rw [List.map_cons, List.nodup_cons] at hn
  have hne : ∀ p ∈ N, p.1 ≠ a := fun p hp q => hn.1 (by rw [← q]; exact List.mem_map.mpr ⟨p, hp, rfl⟩)
  refine ⟨S.top, S.rest, ?_, fun b o e n => ?_, fun b o e => ?_, fun p hp => ?_, hn.2⟩
  · obtain ⟨p, hp, hle⟩ := hN
    obtain ⟨⟨o, e, _⟩, _⟩ := S.news p (.tail _ hp)
    exact Nat.le_of_lt (Nat.lt_of_le_of_lt hle (Heap.lt_size (hs _ _ (hne p hp) e)))
  · exact hs _ _ (fun q => absurd (Heap.lt_size e) (by rw [q]; exact Nat.not_lt.mpr ha)) (S.ext b o e n)
  · refine hs _ _ (fun q => ?_) (S.fz b o e)
    rw [q, S.nofrz (.head _)] at e; cases e
  · obtain ⟨⟨o, e, r⟩, x⟩ := S.news p (.tail _ hp)
    exact ⟨⟨o, hs _ _ (hne p hp) e, r⟩, x⟩

theorem iterL {l : Addr} {xs : List Value} {Q : Value → Shared → Prop} (S : At K s₀ X F N s) (hl : Here F N l (ListO xs))
    (h : ∀ it s', s₀.heap.objs.size ≤ it → At K s₀ X F ((it, ListIterO l 0) :: N) s' → Q (.ref it) s') : wpAny (model prog w) A (pyIter (.ref l)) Q E s :=
  wpAny_pyIter_list (S.isList hl) (h _ _ S.size (S.push (t := s.toks) ⟨rfl, rfl⟩ rfl))
theorem nextL {it l : Addr} {j i : Nat} {xs : List Value} {v : Value} {Q : Option Value → Shared → Prop} (S : At K s₀ X F N s) (hi : N[i]? = some (it, ListIterO l j)) (hl : Here F N l (ListO xs)) (hx : xs[j]? = some v)
    (h : ∀ s', At K s₀ X F (N.set i (it, ListIterO l (j + 1))) s' → Q (some v) s') : wpAny (model prog w) A (pyNext (.ref it)) Q E s :=
  wpAny_pyNext_list_item (S.get0 hi) (S.isList hl) (by simpa using hx) fun _ hit hs => h _ (S.set (t := s.toks) hi hs hit)
theorem endL {it l : Addr} {j : Nat} {xs : List Value} {Q : Option Value → Shared → Prop} (hh : A.handled = none) (S : At K s₀ X F ((it, ListIterO l j) :: N) s) (ha : s₀.heap.objs.size ≤ it) (hN : ∃ p ∈ N, s₀.heap.objs.size ≤ p.1)
    (hl : Here F ((it, ListIterO l j) :: N) l (ListO xs)) (hx : xs[j]? = none)
    (h : ∀ s', At K s₀ X F N s' → Q none s') : wpAny (model prog w) A (pyNext (.ref it)) Q E s :=
  wpAny_pyNext_list_end hh (S.get (.head _)) (S.isList hl) (by simpa using hx) fun _ he => h _ (S.extBut (t := s.toks) ha he hN)
theorem iterR {r : Addr} {a b c : Int} {Q : Value → Shared → Prop} (S : At K s₀ X F N s) (hr : Here F N r (RangeO a b c)) (hsmall : Builtin.Range.small a b c = true)
    (h : ∀ it s', s₀.heap.objs.size ≤ it → At K s₀ X F ((it, RangeIterO a (Builtin.Range.rangeSize a b c) c) :: N) s' → Q (.ref it) s') : wpAny (model prog w) A (pyIter (.ref r)) Q E s := by
  obtain ⟨_, e, t, u, v, rfl⟩ := S.here hr
  exact wpAny_pyIter_range e hsmall (h _ _ S.size (S.push (t := s.toks) rfl rfl))
theorem nextR {it : Addr} {i : Nat} {x left step : Int} {Q : Option Value → Shared → Prop} (S : At K s₀ X F N s) (hi : N[i]? = some (it, RangeIterO x left step)) (hx : 0 < left)
    (h : ∀ t s', At K s₀ X F (N.set i (it, RangeIterO (x + step) (left - 1) step)) s' → Q (some (.int x t)) s') : wpAny (model prog w) A (pyNext (.ref it)) Q E s := by
  obtain ⟨_, e, rfl⟩ := S.get0 hi
  exact wpAny_pyNext_range_item e hx fun _ hit hs => h _ _ (S.set (t := s.toks + 1) hi hs ⟨_, hit, rfl⟩)
theorem endR {it : Addr} {x left step : Int} {Q : Option Value → Shared → Prop} (hh : A.handled = none) (S : At K s₀ X F ((it, RangeIterO x left step) :: N) s) (ha : s₀.heap.objs.size ≤ it) (hN : ∃ p ∈ N, s₀.heap.objs.size ≤ p.1) (hx : left ≤ 0)
    (h : ∀ s', At K s₀ X F N s' → Q none s') : wpAny (model prog w) A (pyNext (.ref it)) Q E s := by
  obtain ⟨_, e, rfl⟩ := S.get (.head _)
  exact wpAny_pyNext_range_end hh e hx fun _ he => h _ (S.extBut (t := s.toks) ha he hN)

/-- a while loop -/
theorem whileF {test : Expr} {body : List Stmt} {pos : Pos} {Q : Flow → Shared → Prop} (I : Nat → Shared → Prop)
    (turn : ∀ n s, I n s → wpAny (model prog w) A (isTrue test env (eval test env)) (fun b s₂ =>
        if b then wpAny (model prog w) A (execs body env) (fun f s₃ => match f with
            | .next | .cont => ∃ m, m < n ∧ I m s₃
            | .brk => Q .next s₃
            | .ret v => Q (.ret v) s₃) NoE s₂
        else Q .next s₂) NoE s)
    (n : Nat) (h : I n s) : wpAny (model prog w) A (exec (.While test body [] pos) env) Q E s := by
  refine wpAny_While (codeAny_whileLoop I (fun n s hI => ?_) n h)
  refine wpAny_mono (turn n s hI) (fun b s₂ h₂ => ?_) fun _ _ f => f.elim
  cases b with
  | false => simp only [Bool.false_eq_true, if_false] at h₂ ⊢; exact wpAny_execs_nil h₂
  | true =>
    simp only [if_true] at h₂ ⊢
    refine wpAny_mono h₂ (fun f s₃ h₃ => ?_) fun _ _ f => f.elim
    cases f <;> exact h₃

/-- one turn of a for loop at a time, with an invariant -/
theorem forF {target : Expr} {iter : Expr} {body : List Stmt} {pos : Pos} {Q : Flow → Shared → Prop}
    (h : wpAny (model prog w) A (eval iter env) (fun x s₁ => wpAny (model prog w) A (pyIter x) (fun it s₂ => ∃ I : Nat → Shared → Prop, (∃ n, I n s₂) ∧
      ∀ n s, I n s → wpAny (model prog w) A (pyNext it) (fun r s₁ => match r with
        | none => Q .next s₁
        | some v => wpAny (model prog w) A (assign target env v) (fun _ s₂ => wpAny (model prog w) A (execs body env) (fun f s₃ => match f with
            | .next | .cont => ∃ m, m < n ∧ I m s₃
            | .brk => Q .next s₃
            | .ret v => Q (.ret v) s₃) NoE s₂) NoE s₁) NoE s) NoE s₁) NoE s)
    (hs : ∀ x, foldedSetIterable iter env x = pure x := by intro _; rfl) (ht : ∀ it v, letOwnedTupleGo target it v = pure () := by intro _ _; rfl) :
    wpAny (model prog w) A (exec (.For target iter body [] pos) env) Q E s := by
  refine wpAny_For (wpAny_mono (ofNoE h) (fun x s₁ h₁ => wpAny_mono (ofNoE h₁) (fun it s₂ h₂ => ?_) fun _ _ f => f) fun _ _ f => f) hs
  obtain ⟨I, ⟨n, hn⟩, turn⟩ := h₂
  refine codeAny_forLoop I (fun n s hI => ?_) n hn (ht it)
  refine wpAny_mono (turn n s hI) (fun r s₁ h₁ => ?_) fun _ _ f => f.elim
  cases r with
  | none => exact wpAny_execs_nil h₁
  | some v =>
    refine wpAny_mono h₁ (fun _ s₂ h₂ => wpAny_mono h₂ (fun f s₃ h₃ => ?_) fun _ _ f => f.elim) fun _ _ f => f.elim
    cases f <;> exact h₃
end

-- M4

section
variable {prog : Program} {w : World} {A : Around} {K : Frag} {s₀ s : Shared} {X : List Addr} {F : Fz} {N : Led} {E : Value → Shared → Prop} {env : Env}

theorem At.swap {a b : Addr × OP} (S : At K s₀ X F (a :: b :: N) s) : At K s₀ X F (b :: a :: N) s := S.perm (List.Perm.swap _ _ _)
theorem At.rot {a b c : Addr × OP} (S : At K s₀ X F (a :: b :: c :: N) s) : At K s₀ X F (b :: c :: a :: N) s := S.perm ((List.Perm.cons b (List.Perm.swap a c N)).trans (List.Perm.swap a b (c :: N)))
/-- the head entry is forgotten behind a change of it alone -/
theorem At.forget {a : Addr} {P : OP} {h' : Heap} {t : Nat} (S : At K s₀ X F ((a, P) :: N) s) (ha : s₀.heap.objs.size ≤ a) (hs : Heap.SameBut a s.heap h') : At K s₀ X F N { s with heap := h', toks := t } := by
  have hn := S.nodup
  rw [List.map_cons, List.nodup_cons] at hn
  refine ⟨S.top, S.rest, by rw [hs.1]; exact S.size, fun b o e n => ?_, fun b o e => ?_, fun p hp => ?_, hn.2⟩
  · exact (hs.2 _ fun q => absurd (Heap.lt_size e) (by rw [q]; exact Nat.not_lt.mpr ha)).trans (S.ext b o e n)
  · refine (hs.2 _ fun q => ?_).trans (S.fz b o e)
    rw [q, S.nofrz (.head _)] at e; cases e
  · obtain ⟨⟨o, e, r⟩, x⟩ := S.news p (.tail _ hp)
    exact ⟨⟨o, (hs.2 _ fun q => hn.1 (by rw [← q]; exact List.mem_map.mpr ⟨p, hp, rfl⟩)).trans e, r⟩, x⟩

/-- how an iterator runs -/
structure Src (prog : Program) (w : World) (A : Around) (K : Frag) (s₀ : Shared) (X : List Addr) (it : Addr) (PI : Nat → OP) (n : Nat) (val : Nat → Value → Prop) (D : Fz → Led → Prop) : Prop where
  self : ∀ {F N s} {Q : Value → Shared → Prop} {E}, At K s₀ X F N s → (it, PI 0) ∈ N → Q (.ref it) s → wpAny (model prog w) A (pyIter (.ref it)) Q E s
  item : ∀ {F N s i k} {Q : Option Value → Shared → Prop} {E}, i < n → At K s₀ X F N s → N[k]? = some (it, PI i) → D F N → (∀ v s', val i v → At K s₀ X F (N.set k (it, PI (i + 1))) s' → Q (some v) s') →
    wpAny (model prog w) A (pyNext (.ref it)) Q E s
  done : ∀ {F N s} {Q : Option Value → Shared → Prop} {E}, At K s₀ X F ((it, PI n) :: N) s → (∃ p ∈ N, s₀.heap.objs.size ≤ p.1) → D F ((it, PI n) :: N) → (∀ s', At K s₀ X F N s' → Q none s') →
    wpAny (model prog w) A (pyNext (.ref it)) Q E s

theorem srcL {it l : Addr} {xs : List Value} (hh : A.handled = none) (ha : s₀.heap.objs.size ≤ it) : Src prog w A K s₀ X it (ListIterO l) xs.length (fun i v => xs[i]? = some v) (fun F N => Here F N l (ListO xs)) where
  self := fun S hm q => wpAny_pyIter_listiter (S.get hm) q
  item := fun {F N s i k Q E} hi S hk hD h => by
    obtain ⟨v, hv⟩ : ∃ v, xs[i]? = some v := ⟨xs[i], List.getElem?_eq_getElem hi⟩
    exact nextL S hk hD hv fun s' S' => h v s' hv S'
  done := fun S hN hD h => endL hh S ha hN hD (List.getElem?_eq_none (Nat.le_refl _)) h
theorem srcR {it : Addr} {a c : Int} {n : Nat} (hh : A.handled = none) (ha : s₀.heap.objs.size ≤ it) : Src prog w A K s₀ X it (fun i => RangeIterO (a + i * c) (n - i) c) n (fun i v => ∃ t, v = .int (a + i * c) t) (fun _ _ => True) where
  self := fun S hm q => by
    obtain ⟨_, e, rfl⟩ := S.get hm
    exact wpAny_pyIter_rangeiter e q
  item := fun {F N s i k Q E} hi S hk _ h => by
    refine nextR S hk (by lia) fun t s' S' => h _ s' ⟨t, rfl⟩ ?_
    have e1 : a + ((i + 1 : Nat) : Int) * c = a + (i : Int) * c + c := by push_cast; rw [Int.add_mul, Int.one_mul, Int.add_assoc]
    have e2 : (n : Int) - ((i + 1 : Nat) : Int) = (n : Int) - (i : Int) - 1 := by push_cast; lia
    rw [e1, e2]; exact S'
  done := fun S hN _ h => endR hh S ha hN (by lia) h

/-- a for loop by an invariant over the frame, the frozen part and the ledger -/
theorem forI {x : Str} {px : Pos} {iter : Expr} {body : List Stmt} {pos : Pos} {Q : Flow → Shared → Prop} (hx : env.kindOf x = some .local) (hk : env.scope.kind = .function) (hL : s₀.heap.objs.size ≤ env.locals)
    (h : wpAny (model prog w) A (eval iter env) (fun xv s₁ => wpAny (model prog w) A (pyIter xv) (fun itv s₂ => ∃ it PI n val D F m N, ∃ I : Nat → Fz → (Str → Option Value) → Led → Prop,
      itv = .ref it ∧ Src prog w A K s₀ X it PI n val D ∧ At K s₀ X F ((it, PI 0) :: (env.locals, NsO m) :: N) s₂ ∧ I 0 F m N ∧ (∀ i F m N N', I i F m N → (∀ p ∈ N, p ∈ N') → D F N') ∧
      (∀ i F (m : Str → Option Value) N v s', i < n → val i v → I i F m N → At K s₀ X F ((env.locals, NsO fun y => if y = x then some v else m y) :: (it, PI (i + 1)) :: N) s' →
        wpAny (model prog w) A (execs body env) (fun f s'' => match f with
          | .next | .cont => ∃ F' m' N', I (i + 1) F' m' N' ∧ At K s₀ X F' ((env.locals, NsO m') :: (it, PI (i + 1)) :: N') s''
          | .brk => Q .next s''
          | .ret v => Q (.ret v) s'') NoE s') ∧
      (∀ F m N s', I n F m N → At K s₀ X F ((env.locals, NsO m) :: N) s' → Q .next s')) NoE s₁) NoE s)
    (hs : ∀ x, foldedSetIterable iter env x = pure x := by intro _; rfl) :
    wpAny (model prog w) A (exec (.For (.Name x px) iter body [] pos) env) Q E s := by
  refine forF (wpAny_mono h (fun xv s₁ h₁ => wpAny_mono h₁ (fun itv s₂ h₂ => ?_) fun _ _ f => f) fun _ _ f => f) hs
  obtain ⟨it, PI, n, val, D, F, m, N, I, rfl, W, S, h0, hD, turn, done⟩ := h₂
  refine ⟨fun k s' => ∃ i F m N, i ≤ n ∧ k = n - i ∧ I i F m N ∧ At K s₀ X F ((it, PI i) :: (env.locals, NsO m) :: N) s', ⟨n, 0, F, m, N, Nat.zero_le _, rfl, h0, S⟩, ?_⟩
  rintro k s' ⟨i, F, m, N, hi, rfl, hI, S⟩
  by_cases hlt : i < n
  · refine W.item (k := 0) hlt S rfl (hD _ _ _ _ _ hI fun p hp => .tail _ (.tail _ hp)) fun v s₁ hv S₁ => ?_
    refine wpAny_assign_Name (stL (S₁.swap) (fun s₂ S₂ => ?_) hk hx)
    refine wpAny_mono (turn i F m N v s₂ hlt hv hI S₂) (fun f s₃ h₃ => ?_) fun _ _ f => f
    cases f with
    | next => obtain ⟨F', m', N', hI', S'⟩ := h₃; exact ⟨n - (i + 1), by lia, i + 1, F', m', N', hlt, rfl, hI', S'.swap⟩
    | cont => obtain ⟨F', m', N', hI', S'⟩ := h₃; exact ⟨n - (i + 1), by lia, i + 1, F', m', N', hlt, rfl, hI', S'.swap⟩
    | brk => exact h₃
    | ret v => exact h₃
  · have : i = n := by lia
    subst this
    exact W.done S ⟨_, .head _, hL⟩ (hD _ _ _ _ _ hI fun p hp => .tail _ (.tail _ hp)) fun s₁ S₁ => done F m N s₁ hI S₁

theorem appendF {l : Addr} {i : Nat} {xs : List Value} {x : Value} {Q : Value → Shared → Prop} (S : At K s₀ X F N s) (hi : N[i]? = some (l, ListO xs)) (hsz : xs.length ≤ sizeLine)
    (h : ∀ s', At K s₀ X F (N.set i (l, ListO (xs ++ [x]))) s' → Q .none s') : wpAny (model prog w) A (call (.builtin "list.append") [.ref l, x]) Q E s := by
  obtain ⟨o, e, n, rfl⟩ := S.get0 hi
  refine wpAny_list_append_plain (items := xs.toArray) ⟨n, e⟩ (fun h' hl hs => h _ (S.set (t := s.toks) hi hs ?_)) (by rw [List.size_toArray]; exact hsz)
  obtain ⟨n', e'⟩ := hl
  exact ⟨_, e', n', by rw [List.push_toArray]⟩

/-- the turns of a list comprehension, from its block's start -/
theorem compCore {elt iter : Expr} {x : Str} {px : Pos} {ifs : List Expr} {scope : Scope} {cl : List (Str × Addr)} {pos : Pos} {it acc C : Addr} {PI : Nat → OP} {n : Nat} {val : Nat → Value → Prop} {D : Fz → Led → Prop} {m₀ : Str → Option Value}
    {R : Result → Shared → Prop} (I : Nat → Fz → List Value → Led → Prop)
    (hkind : scope.kind = .function) (hx : scope.names.lookup x = some .local)
    (W : Src prog w A K s₀ X it PI n val D) (hn : n ≤ sizeLine) (hacc : s₀.heap.objs.size ≤ acc)
    (S : At K s₀ X F ((it, PI 0) :: (C, NsO m₀) :: (acc, ListO []) :: N) s) (h0 : I 0 F [] N) (hD : ∀ i F ys N N', I i F ys N → (∀ p ∈ N, p ∈ N') → D F N')
    (turn : ∀ i F ys N v (mc : Str → Option Value) s', i < n → val i v → I i F ys N → At K s₀ X F ((C, NsO fun y => if y = x then some v else mc y) :: (it, PI (i + 1)) :: (acc, ListO ys) :: N) s' →
      wpAny (model prog w) A (forIn ifs true fun c r => if r = true then do let ok ← isTrue c (compEnvC scope cl C env) (eval c (compEnvC scope cl C env)); pure (ForInStep.yield ok) else pure (ForInStep.yield r)) (fun ok s₃ =>
        if ok = true then wpAny (model prog w) A (eval elt (compEnvC scope cl C env)) (fun y s₄ => ∃ F' mc' N', I (i + 1) F' (ys ++ [y]) N' ∧ At K s₀ X F' ((C, NsO mc') :: (it, PI (i + 1)) :: (acc, ListO ys) :: N') s₄) NoE s₃
        else ∃ F' mc' N', I (i + 1) F' ys N' ∧ At K s₀ X F' ((C, NsO mc') :: (it, PI (i + 1)) :: (acc, ListO ys) :: N') s₃) NoE s')
    (done : ∀ F ys N (mc : Str → Option Value) s', I n F ys N → ys.length ≤ n → At K s₀ X F ((C, NsO mc) :: (acc, ListO ys) :: N) s' → R (.ok .next) s') :
    codeAny (model prog w) A (.compStart (.ListComp elt [⟨.Name x px, iter, ifs, 0⟩] scope pos) 0 (.ref it) (.ref acc) (compEnvC scope cl C env)) R s := by
  have hkx : (compEnvC scope cl C env).kindOf x = some .local := lookup_relabel_local hx
  have loop : codeAny (model prog w) A (.compLoop (.ListComp elt [⟨.Name x px, iter, ifs, 0⟩] scope pos) 0 (.ref it) (.ref acc) (compEnvC scope cl C env)) R s := by
    refine codeAny_compLoop_tests (fun k s' => ∃ i F ys mc N, i ≤ n ∧ k = n - i ∧ ys.length ≤ i ∧ I i F ys N ∧ At K s₀ X F ((it, PI i) :: (C, NsO mc) :: (acc, ListO ys) :: N) s') ?_ n ⟨0, F, [], m₀, N, Nat.zero_le _, rfl, Nat.le_refl _, h0, S⟩
    rintro k s' ⟨i, F, ys, mc, N, hi, rfl, hys, hI, S⟩
    by_cases hlt : i < n
    · refine W.item (k := 0) hlt S rfl (hD _ _ _ _ _ hI fun p hp => .tail _ (.tail _ (.tail _ hp))) fun v s₁ hv S₁ => ?_
      refine wpAny_assign_Name (stL (env := compEnvC scope cl C env) S₁.swap (fun s₂ S₂ => ?_) hkind hkx)
      refine wpAny_mono (turn i F ys N v mc s₂ hlt hv hI S₂) (fun ok s₃ h₃ => ?_) fun _ _ f => f.elim
      cases ok with
      | false =>
        simp only [Bool.false_eq_true, if_false] at h₃ ⊢
        obtain ⟨F', mc', N', hI', S'⟩ := h₃
        exact ⟨n - (i + 1), by lia, i + 1, F', ys, mc', N', hlt, rfl, by lia, hI', S'.swap⟩
      | true =>
        simp only [if_true] at h₃ ⊢
        refine wpAny_mono h₃ (fun y s₄ h₄ => ?_) fun _ _ f => f.elim
        obtain ⟨F', mc', N', hI', S'⟩ := h₄
        refine appendF (i := 2) S' rfl (by lia) fun s₅ S₅ => ⟨n - (i + 1), by lia, i + 1, F', ys ++ [y], mc', N', hlt, rfl, by rw [List.length_append]; simp; lia, hI', S₅.swap⟩
    · have : i = n := by lia
      subst this
      exact W.done S ⟨_, .tail _ (.head _), hacc⟩ (hD _ _ _ _ _ hI fun p hp => .tail _ (.tail _ (.tail _ hp))) fun s₁ S₁ => done F ys N mc s₁ hI hys S₁
  exact codeAny_compStart_list loop (W.self S (.head _) loop)

theorem newC {scope : Scope} {cl : List (Str × Addr)} {Q : Env → Shared → Prop} (S : At K s₀ X F N s) (hcell : ∀ y ∈ scope.names, y.2 ≠ .cell) (hkind : scope.kind = .function)
    (h : ∀ C s', s₀.heap.objs.size ≤ C → At K s₀ X F ((C, NsO fun _ => none) :: N) s' → Q (newEnv scope C env.globals cl env.qual none .none (some env) builtinsNs) s') :
    wpAny (model prog w) A (newFunctionEnv scope env.globals cl [] env.qual none .none (some env)) Q E s := by
  refine wpAny_newFunctionEnv hcell (by intro y hy; simp at hy) (fun h₁ hns hsb => ?_) hkind
  have S' : At K s₀ X F ((s.heap.objs.size, fun _ => True) :: N) { s with heap := s.heap.push { cls := .type (if (some env).isSome then "dict" else "frame"), data := .dict #[] }, toks := s.toks } := S.push trivial rfl
  exact h _ _ S.size (S'.put (t := s.toks + ([] : List (Str × Value)).length) hsb (ns_iff.mp hns))

/-- a list comprehension as an expression -/
theorem compE {elt iter : Expr} {x : Str} {px : Pos} {ifs : List Expr} {scope : Scope} {cl : List (Str × Addr)} {pos : Pos} {Q : Value → Shared → Prop}
    (hclos : closureFor scope env = pure cl) (hcell : ∀ y ∈ scope.names, y.2 ≠ .cell) (hkind : scope.kind = .function) (hnames : ∀ y ∈ scope.names, y.2 = .local → scope.names.lookup y.1 = some .local) (hx : scope.names.lookup x = some .local)
    (h : wpAny (model prog w) A (eval iter env) (fun xv s₁ => wpAny (model prog w) A (pyIter xv) (fun itv s₂ => ∃ it PI n val D F N, ∃ I : Nat → Fz → List Value → Led → Prop,
      itv = .ref it ∧ Src prog w A K s₀ X it PI n val D ∧ n ≤ sizeLine ∧ At K s₀ X F ((it, PI 0) :: N) s₂ ∧ I 0 F [] N ∧ (∀ i F ys N N', I i F ys N → (∀ p ∈ N, p ∈ N') → D F N') ∧
      (∀ i F ys N v (mc : Str → Option Value) (C acc : Addr) s', i < n → val i v → I i F ys N → At K s₀ X F ((C, NsO fun y => if y = x then some v else mc y) :: (it, PI (i + 1)) :: (acc, ListO ys) :: N) s' →
        wpAny (model prog w) A (forIn ifs true fun c r => if r = true then do let ok ← isTrue c (compEnvC scope cl C env) (eval c (compEnvC scope cl C env)); pure (ForInStep.yield ok) else pure (ForInStep.yield r)) (fun ok s₃ =>
          if ok = true then wpAny (model prog w) A (eval elt (compEnvC scope cl C env)) (fun y s₄ => ∃ F' mc' N', I (i + 1) F' (ys ++ [y]) N' ∧ At K s₀ X F' ((C, NsO mc') :: (it, PI (i + 1)) :: (acc, ListO ys) :: N') s₄) NoE s₃
          else ∃ F' mc' N', I (i + 1) F' ys N' ∧ At K s₀ X F' ((C, NsO mc') :: (it, PI (i + 1)) :: (acc, ListO ys) :: N') s₃) NoE s') ∧
      (∀ F ys N (acc : Addr) s', I n F ys N → ys.length ≤ n → s₀.heap.objs.size ≤ acc → At K s₀ X F ((acc, ListO ys) :: N) s' → Q (.ref acc) s')) NoE s₁) NoE s)
    (hs : ∀ x, foldedSetIterable iter env x = pure x := by intro _; rfl) :
    wpAny (model prog w) A (eval (.ListComp elt [⟨.Name x px, iter, ifs, 0⟩] scope pos) env) Q E s := by
  rw [eval_ListComp]
  refine ofNoE (wpAny_comprehension_free (use := none) rfl hs hclos hkind hnames (wpAny_mono h (fun xv s₁ h₁ => wpAny_mono h₁ (fun itv s₂ h₂ => ?_) fun _ _ e => e) fun _ _ e => e))
  obtain ⟨it, PI, n, val, D, F, N, I, rfl, W, hn, S, h0, hD, turn, done⟩ := h₂
  refine wpAny_newObj_type ?_ (by size_fits)
  have S1 : At K s₀ X F ((s₂.heap.objs.size, ListO []) :: (it, PI 0) :: N) { s₂ with heap := s₂.heap.push { cls := .type "list", data := .seq ([] : List Value).toArray }, toks := s₂.toks } := S.push ⟨0, rfl⟩ rfl
  refine newC S1 hcell hkind fun C s₄ hC S4 => ?_
  have S5 : At K s₀ X F ((it, PI 0) :: (C, NsO fun _ => none) :: (s₂.heap.objs.size, ListO []) :: N) s₄ := S4.rot.rot
  refine compCore (cl := cl) (env := env) I hkind hx W hn S.size S5 h0 hD (fun i F ys N v mc s' hi hv hI S' => turn i F ys N v mc C _ s' hi hv hI S') fun F ys N mc s' hI hys S' => ?_
  obtain ⟨o, e, p⟩ := S'.get (.head _)
  exact ⟨mc, ns_iff.mpr ⟨o, e, p⟩, fun h' hsb => done F ys N _ _ hI hys S.size (S'.forget (t := s'.toks) hC hsb)⟩

/-- a list comprehension whose list a local name takes at once -/
theorem compA {elt iter : Expr} {x y : Str} {px py : Pos} {ifs : List Expr} {scope : Scope} {cl : List (Str × Addr)} {pos spos : Pos} {Q : Flow → Shared → Prop}
    (hsw : swapsWith (.ListComp elt [⟨.Name x px, iter, ifs, 0⟩] scope pos) (some (.Name y py)) spos.line env = pure true)
    (hclos : closureFor scope env = pure cl) (hcell : ∀ y ∈ scope.names, y.2 ≠ .cell) (hkind : scope.kind = .function) (hnames : ∀ y ∈ scope.names, y.2 = .local → scope.names.lookup y.1 = some .local) (hx : scope.names.lookup x = some .local)
    (hy : env.kindOf y = some .local) (hke : env.scope.kind = .function)
    (h : wpAny (model prog w) A (eval iter env) (fun xv s₁ => wpAny (model prog w) A (pyIter xv) (fun itv s₂ => ∃ it PI n val D F N, ∃ I : Nat → Fz → List Value → Led → Prop,
      itv = .ref it ∧ Src prog w A K s₀ X it PI n val D ∧ n ≤ sizeLine ∧ At K s₀ X F ((it, PI 0) :: N) s₂ ∧ I 0 F [] N ∧ (∀ i F ys N N', I i F ys N → (∀ p ∈ N, p ∈ N') → D F N') ∧
      (∀ i F ys N v (mc : Str → Option Value) (C acc : Addr) s', i < n → val i v → I i F ys N → At K s₀ X F ((C, NsO fun y => if y = x then some v else mc y) :: (it, PI (i + 1)) :: (acc, ListO ys) :: N) s' →
        wpAny (model prog w) A (forIn ifs true fun c r => if r = true then do let ok ← isTrue c (compEnvC scope cl C env) (eval c (compEnvC scope cl C env)); pure (ForInStep.yield ok) else pure (ForInStep.yield r)) (fun ok s₃ =>
          if ok = true then wpAny (model prog w) A (eval elt (compEnvC scope cl C env)) (fun y s₄ => ∃ F' mc' N', I (i + 1) F' (ys ++ [y]) N' ∧ At K s₀ X F' ((C, NsO mc') :: (it, PI (i + 1)) :: (acc, ListO ys) :: N') s₄) NoE s₃
          else ∃ F' mc' N', I (i + 1) F' ys N' ∧ At K s₀ X F' ((C, NsO mc') :: (it, PI (i + 1)) :: (acc, ListO ys) :: N') s₃) NoE s') ∧
      (∀ F ys N, I n F ys N → ∃ (m : Str → Option Value) (N'' : Led), N = (env.locals, NsO m) :: N'' ∧ ∀ (acc : Addr) s', ys.length ≤ n → s₀.heap.objs.size ≤ acc →
        At K s₀ X F ((env.locals, NsO fun z => if z = y then some (.ref acc) else m z) :: (acc, ListO ys) :: N'') s' → Q .next s')) NoE s₁) NoE s)
    (hs : ∀ x, foldedSetIterable iter env x = pure x := by intro _; rfl) :
    wpAny (model prog w) A (exec (.Assign [.Name y py] (.ListComp elt [⟨.Name x px, iter, ifs, 0⟩] scope pos) spos) env) Q E s := by
  refine ofNoE ?_
  rw [exec_Assign_Name_used _ _ _ _ hsw]
  refine wpAny_bind (wpAny_standAt (wpAny_bind ?_))
  show wpAny _ A (do let _ ← comprehension (.ListComp elt [⟨.Name x px, iter, ifs, 0⟩] scope pos) scope env _ (newList []) false (eval iter env) (some (assign (.Name y py) env))) _ _ s
  refine wpAny_bind (wpAny_mono (wpAny_comprehension_free (use := some (assign (.Name y py) env)) (Q := fun _ s' => Q .next s') rfl hs hclos hkind hnames
    (wpAny_mono h (fun xv s₁ h₁ => wpAny_mono h₁ (fun itv s₂ h₂ => ?_) fun _ _ e => e) fun _ _ e => e)) (fun _ s' hq => wpAny_pure (wpAny_pure hq)) fun _ _ e => e)
  obtain ⟨it, PI, n, val, D, F, N, I, rfl, W, hn, S, h0, hD, turn, done⟩ := h₂
  refine wpAny_newObj_type ?_ (by size_fits)
  have S1 : At K s₀ X F ((s₂.heap.objs.size, ListO []) :: (it, PI 0) :: N) { s₂ with heap := s₂.heap.push { cls := .type "list", data := .seq ([] : List Value).toArray }, toks := s₂.toks } := S.push ⟨0, rfl⟩ rfl
  refine newC S1 hcell hkind fun C s₄ hC S4 => ?_
  have S5 : At K s₀ X F ((it, PI 0) :: (C, NsO fun _ => none) :: (s₂.heap.objs.size, ListO []) :: N) s₄ := S4.rot.rot
  refine compCore (cl := cl) (env := env) I hkind hx W hn S.size S5 h0 hD (fun i F ys N v mc s' hi hv hI S' => turn i F ys N v mc C _ s' hi hv hI S') fun F ys N mc s' hI hys S' => ?_
  obtain ⟨m, N'', rfl, done⟩ := done F ys N hI
  show wpAny _ A (assign (.Name y py) env (.ref s₂.heap.objs.size)) _ _ _
  refine wpAny_assign_Name (stL S'.rot.rot (fun s₆ S₆ => ?_) hke hy)
  obtain ⟨o, e, p⟩ := S₆.get (.tail _ (.head _))
  exact ⟨mc, ns_iff.mpr ⟨o, e, p⟩, fun h' hsb => done _ _ hys S.size (At.forget (t := s₆.toks) S₆.swap hC hsb)⟩
end

-- M5

section
variable {prog : Program} {w : World} {A : Around} {K : Frag} {s₀ s : Shared} {X : List Addr} {F : Fz} {N : Led} {E : Value → Shared → Prop} {env : Env} {Q : Value → Shared → Prop}

theorem small_sizeLine {n : Nat} (h : n ≤ 100000) : n ≤ sizeLine := by rw [sizeLine_eq]; lia
theorem At.isTup (S : At K s₀ X F N s) {l : Addr} {xs : List Value} (h : Here F N l (TupO xs)) : IsTup s.heap l xs.toArray := by
  obtain ⟨o, e, n, rfl⟩ := S.here h
  exact ⟨_, e, rfl, n, rfl⟩
theorem At.isTuple (S : At K s₀ X F N s) {l : Addr} {xs : List Value} (h : Here F N l (TupO xs)) : s.heap.IsTuple l xs.toArray := by
  obtain ⟨o, e, n, rfl⟩ := S.here h
  exact ⟨_, e, rfl, n, rfl⟩

theorem lenL {l : Addr} {xs : List Value} (S : At K s₀ X F N s) (hl : Here F N l (ListO xs)) (hz : xs.length ≤ 100000) (h : ∀ t s', At K s₀ X F N s' → Q (.int xs.length t) s') : wpAny (model prog w) A (call (.builtin "len") [.ref l]) Q E s :=
  call_len_list (S.isList hl) (by rw [List.size_toArray]; lia) (by rw [List.size_toArray]; exact h _ _ (S.toks _))
theorem lenT {l : Addr} {xs : List Value} (S : At K s₀ X F N s) (hl : Here F N l (TupO xs)) (hz : xs.length ≤ 100000) (h : ∀ t s', At K s₀ X F N s' → Q (.int xs.length t) s') : wpAny (model prog w) A (call (.builtin "len") [.ref l]) Q E s :=
  PyProof.Rows.len_tuple (S.isTup hl) (by rw [List.size_toArray]; lia) (by rw [List.size_toArray]; exact h _ _ (S.toks _))
theorem getL {l : Addr} {xs : List Value} {k : Int} {t : Tok} {v : Value} (S : At K s₀ X F N s) (hl : Here F N l (ListO xs)) (h0 : 0 ≤ k) (hk : k < 2 ^ 63) (hx : xs[k.toNat]? = some v) (h : Q v s) : wpAny (model prog w) A (getItem (.ref l) (.int k t)) Q E s :=
  wpAny_getItem_list (S.isList hl) h0 hk (by simpa using hx) h
theorem subL {value slice : Expr} {l : Addr} {xs : List Value} {k : Int} {t : Tok} {v : Value} (S : At K s₀ X F N s) (hl : Here F N l (ListO xs)) (h0 : 0 ≤ k) (hk : k < 2 ^ 63) (hx : xs[k.toNat]? = some v) (h : Q v s)
    (hs : subscripted slice false (.ref l) (.int k t) = operate [.ref l, .int k t] (getItem (.ref l) (.int k t))) : wpAny (model prog w) A (subscriptTail value slice (.ref l) (.int k t)) Q E s :=
  tail_any (S.isList hl).typeIs slot_list_getitem.lookup (getL S hl h0 hk hx h) hs
/-- xs[-1] -/
theorem subLlast {value slice : Expr} {l : Addr} {xs : List Value} {t : Tok} {v : Value} (S : At K s₀ X F N s) (hl : Here F N l (ListO xs)) (hx : xs.getLast? = some v) (h : Q v s)
    (hs : subscripted slice false (.ref l) (.int (-1) t) = operate [.ref l, .int (-1) t] (getItem (.ref l) (.int (-1) t))) : wpAny (model prog w) A (subscriptTail value slice (.ref l) (.int (-1) t)) Q E s := by
  have hne : xs ≠ [] := by rintro rfl; cases hx
  have hp : 0 < xs.length := List.length_pos_iff.mpr hne
  refine tail_any (S.isList hl).typeIs slot_list_getitem.lookup (wpAny_getItem_list_neg (S.isList hl) (by lia) (by rw [List.size_toArray]; lia) (by lia) ?_ h) hs
  rw [List.getLast?_eq_getElem?] at hx
  rw [List.size_toArray, List.getElem?_toArray, ← hx]
  congr 1
  lia
theorem subT {value slice : Expr} {l : Addr} {xs : List Value} {k : Int} {t : Tok} {v : Value} (S : At K s₀ X F N s) (hl : Here F N l (TupO xs)) (h0 : 0 ≤ k) (hk : k < 2 ^ 63) (hx : xs[k.toNat]? = some v) (h : Q v s)
    (hs : subscripted slice false (.ref l) (.int k t) = operate [.ref l, .int k t] (getItem (.ref l) (.int k t))) : wpAny (model prog w) A (subscriptTail value slice (.ref l) (.int k t)) Q E s := by
  have hlt : k.toNat < xs.length := (List.getElem?_eq_some_iff.mp hx).1
  exact tail_any (S.isTup hl).typeIs PyProof.Rows.slot_tuple_getitem.lookup (PyProof.Rows.getItem_tuple (S.isTup hl) (by lia) hk (by rw [List.size_toArray]; exact seqIndex_of h0 (by lia)) (by simpa using hx) h) hs

theorem methL {name : Str} {id : String} {l : Addr} {xs : List Value} {pl : Sem Bool} {Q : Value × List Value → Shared → Prop} (slot : Slot "list" name id) (hty : typeOf (.builtin id) = pure (.type "method_descriptor")) (S : At K s₀ X F N s) (hl : Here F N l (ListO xs)) (h : Q (.builtin id, [.ref l]) s) :
    wpAny (model prog w) A (getMethod (.ref l) name pl) Q E s := by
  obtain ⟨o, e, n, rfl⟩ := S.here hl
  exact getMethod_builtin ⟨_, e, rfl⟩ PySem.F.plainAttrs_list slot hty (fun a q => by cases q; exact ⟨_, e, rfl⟩) h
theorem popL {l : Addr} {xs : List Value} {v : Value} {i : Nat} (S : At K s₀ X F N s) (hi : N[i]? = some (l, ListO (xs ++ [v]))) (hz : xs.length < 100000) (h : ∀ s', At K s₀ X F (N.set i (l, ListO xs)) s' → Q v s') :
    wpAny (model prog w) A (call (.builtin "list.pop") [.ref l]) Q E s := by
  obtain ⟨o, e, n, rfl⟩ := S.get0 hi
  refine call_meets PySem.F.slot_list_pop ⟨_, e, rfl⟩ PySem.F.entry_list_pop (PySem.F.args_list_pop_1 _) (MeetsSeq.list_pop_last l (xs ++ [v]).toArray n v (by simp) (by rw [List.size_toArray]; refine small_sizeLine ?_; simp; lia)) ⟨e, ?_⟩
  refine h _ (S.set (t := s.toks) hi (Heap.SameBut.update ..) ⟨_, Heap.get?_update_self _ e (by rfl), n + 1, ?_⟩)
  have e1 : (xs ++ [v]).toArray.eraseIdxIfInBounds ((xs ++ [v]).toArray.size - 1) = xs.toArray := by
    rw [List.size_toArray]
    simp [Array.eraseIdxIfInBounds, List.eraseIdx_append_of_length_le]
  show (Obj.mapSeq (fun xs_1 => xs_1.eraseIdxIfInBounds ((xs ++ [v]).toArray.size - 1)) _) = _
  unfold Obj.mapSeq
  simp only [e1]
  rw [if_neg (by simp)]
theorem pop0L {l : Addr} {xs : List Value} {v : Value} {t : Tok} {i : Nat} (S : At K s₀ X F N s) (hi : N[i]? = some (l, ListO (v :: xs))) (hz : xs.length < 100000) (h : ∀ s', At K s₀ X F (N.set i (l, ListO xs)) s' → Q v s') :
    wpAny (model prog w) A (call (.builtin "list.pop") [.ref l, .int 0 t]) Q E s := by
  obtain ⟨o, e, n, rfl⟩ := S.get0 hi
  refine call_meets PySem.F.slot_list_pop ⟨_, e, rfl⟩ PySem.F.entry_list_pop (PySem.F.args_list_pop_2 _ _) (MeetsSeq.list_pop_at l (v :: xs).toArray n 0 t 0 v (by decide) (by rw [List.size_toArray]; simp [seqIndex?]) (by simp) (by rw [List.size_toArray]; refine small_sizeLine ?_; simp; lia)) ⟨e, ?_⟩
  refine h _ (S.set (t := s.toks) hi (Heap.SameBut.update ..) ⟨_, Heap.get?_update_self _ e (by rfl), n + 1, ?_⟩)
  have e1 : (v :: xs).toArray.eraseIdxIfInBounds 0 = xs.toArray := by simp [Array.eraseIdxIfInBounds]
  show (Obj.mapSeq (fun xs_1 => xs_1.eraseIdxIfInBounds 0) _) = _
  unfold Obj.mapSeq
  simp only [e1]
  rw [if_neg (by simp)]
theorem extendL {l b : Addr} {xs ys : List Value} {i : Nat} (S : At K s₀ X F N s) (hi : N[i]? = some (l, ListO xs)) (hb : Here F N b (ListO ys)) (hz : xs.length + ys.length ≤ 100000) (h : ∀ s', At K s₀ X F (N.set i (l, ListO (xs ++ ys))) s' → Q .none s') :
    wpAny (model prog w) A (call (.builtin "list.extend") [.ref l, .ref b]) Q E s := by
  obtain ⟨o, e, n, rfl⟩ := S.get0 hi
  obtain ⟨o2, e2, n2, rfl⟩ := S.here hb
  have hz1 : xs.toArray.size + ys.toArray.size ≤ sizeLine := by rw [List.size_toArray, List.size_toArray]; exact small_sizeLine hz
  have hz2 : xs.toArray.size ≤ sizeLine := by lia
  refine call_meets PySem.F.slot_list_extend ⟨_, e, rfl⟩ PySem.F.entry_list_extend (PySem.F.args_list_extend_2 _ _) (AutoSeq1.list_extend_list_list_0 l xs.toArray n b ys.toArray n2 (by
      unfold Builtin.List.listTooLong
      simp only [Bool.and_eq_true, decide_eq_true_eq, not_and]
      intro _; lia) hz2 (by lia)) ⟨e, e2, ?_⟩
  refine h _ (S.set (t := s.toks) hi (Heap.SameBut.update ..) ⟨_, Heap.get?_update_self _ e (by rfl), if (xs.toArray ++ ys.toArray).size == xs.toArray.size then n else n + 1, ?_⟩)
  show (Obj.mapSeq (fun x => x ++ ys.toArray) _) = _
  unfold Obj.mapSeq
  simp only [List.append_toArray]
theorem addL {l b : Addr} {xs ys : List Value} (S : At K s₀ X F N s) (hl : Here F N l (ListO xs)) (hb : Here F N b (ListO ys)) (hz : xs.length + ys.length ≤ 100000) (h : ∀ a s', s₀.heap.objs.size ≤ a → At K s₀ X F ((a, ListO (xs ++ ys)) :: N) s' → Q (.ref a) s') :
    wpAny (model prog w) A (binaryOp .Add (.ref l) (.ref b)) Q E s := by
  obtain ⟨o, e, n, rfl⟩ := S.here hl
  obtain ⟨o2, e2, n2, rfl⟩ := S.here hb
  refine PySem.P.add_list e e2 (h _ _ S.size (S.push (t := s.toks) ⟨0, ?_⟩ rfl)) (by rw [List.size_toArray, List.size_toArray]; exact small_sizeLine hz)
  rw [List.append_toArray]
theorem addT {l b : Addr} {xs ys : List Value} (S : At K s₀ X F N s) (hl : Here F N l (TupO xs)) (hb : Here F N b (TupO ys)) (h1 : xs ≠ []) (h2 : ys ≠ []) (hz : xs.length + ys.length ≤ 100000) (h : ∀ a s', s₀.heap.objs.size ≤ a → At K s₀ X F ((a, TupO (xs ++ ys)) :: N) s' → Q (.ref a) s') :
    wpAny (model prog w) A (binaryOp .Add (.ref l) (.ref b)) Q E s := by
  obtain ⟨o, e, n, rfl⟩ := S.here hl
  obtain ⟨o2, e2, n2, rfl⟩ := S.here hb
  refine PySem.P.add_tuple e e2 (by simpa using h1) (by simpa using h2) (h _ _ S.size (S.push (t := s.toks) ⟨0, ?_⟩ rfl)) (by rw [List.size_toArray, List.size_toArray]; exact small_sizeLine hz)
  rw [List.append_toArray]
theorem range1 {b : Int} {t : Tok} (S : At K s₀ X F N s) (h : ∀ r s', At K s₀ X F ((r, RangeO 0 b 1) :: N) s' → Q (.ref r) s') : wpAny (model prog w) A (call (.type "range") [.int b t]) Q E s :=
  call_range_1 (h _ _ (S.push (t := _) ⟨_, _, _, rfl⟩ rfl))
theorem range2 {a b : Int} {t u : Tok} (S : At K s₀ X F N s) (h : ∀ r s', At K s₀ X F ((r, RangeO a b 1) :: N) s' → Q (.ref r) s') : wpAny (model prog w) A (call (.type "range") [.int a t, .int b u]) Q E s :=
  call_range_2 (h _ _ (S.push (t := _) ⟨_, _, _, rfl⟩ rfl))
theorem negI {a : Int} {t : Tok} (S : At K s₀ X F N s) (h : ∀ t s', At K s₀ X F N s' → Q (.int (-a) t) s') : wpAny (model prog w) A (unaryOp .USub (.int a t)) Q E s :=
  PyProof.Rows.neg_int (h _ _ (S.toks _))
theorem addI {a b : Int} {t u : Tok} (S : At K s₀ X F N s) (h : ∀ t s', At K s₀ X F N s' → Q (.int (a + b) t) s') : wpAny (model prog w) A (binaryOp .Add (.int a t) (.int b u)) Q E s :=
  PyProof.Rows.add_int (h _ _ (S.toks _))
theorem subI {a b : Int} {t u : Tok} (S : At K s₀ X F N s) (h : ∀ t s', At K s₀ X F N s' → Q (.int (a - b) t) s') : wpAny (model prog w) A (binaryOp .Sub (.int a t) (.int b u)) Q E s :=
  PyProof.Rows.sub_int (h _ _ (S.toks _))

def DictS (prog : Program) (w : World) (kvs : List (Str × Value)) : OP := fun o => o.IsDictOf (strKind prog w) kvs
def DictI (prog : Program) (w : World) (kvs : List (Int × Value)) : OP := fun o => o.IsDictOf (intKind prog w) kvs
theorem At.dictS (S : At K s₀ X F N s) {d : Addr} {kvs : List (Str × Value)} (h : Here F N d (DictS prog w kvs)) : s.heap.DictOf (strKind prog w) d kvs := Heap.dictOf_iff.mpr (S.here h)
theorem At.dictI (S : At K s₀ X F N s) {d : Addr} {kvs : List (Int × Value)} (h : Here F N d (DictI prog w kvs)) : s.heap.DictOf (intKind prog w) d kvs := Heap.dictOf_iff.mpr (S.here h)
/-- a top's name is not the module table's -/
theorem At.ne_sys (S : At K s₀ X F N s) {d : Addr} (h : s₀.heap.objs.size ≤ d) : d ≠ sysModules → (d == sysModules) = false := fun h => beq_eq_false_iff_ne.mpr h
theorem subDS {value slice : Expr} {d : Addr} {kvs : List (Str × Value)} {k : Str} {t : Tok} {v : Value} (S : At K s₀ X F N s) (hd : Here F N d (DictS prog w kvs)) (hv : valueAt kvs k = some v) (h : ∀ s', At K s₀ X F N s' → Q v s')
    (hs : subscripted slice false (.ref d) (.str k t) = operate [.ref d, .str k t] (getItem (.ref d) (.str k t))) : wpAny (model prog w) A (subscriptTail value slice (.ref d) (.str k t)) Q E s :=
  tail_any (S.dictS hd).typeIs slot_dict_getitem.lookup (wpAny_getItem_of (strKind_is prog w k t) (S.dictS hd).mapOf hv (h _ (S.toks _))) hs
theorem inDS {d : Addr} {kvs : List (Str × Value)} {k : Str} {t : Tok} (S : At K s₀ X F N s) (hd : Here F N d (DictS prog w kvs)) (hds : (d == sysModules) = false) (h : ∀ s', At K s₀ X F N s' → Q (.bool (valueAt kvs k).isSome) s') :
    wpAny (model prog w) A (compareOp .In (.str k t) (.ref d)) Q E s := wpAny_in_of (strKind_is prog w k t) hds (S.dictS hd).mapOf (h _ (S.toks _))
theorem notInDS {d : Addr} {kvs : List (Str × Value)} {k : Str} {t : Tok} (S : At K s₀ X F N s) (hd : Here F N d (DictS prog w kvs)) (hds : (d == sysModules) = false) (h : ∀ s', At K s₀ X F N s' → Q (.bool (!(valueAt kvs k).isSome)) s') :
    wpAny (model prog w) A (compareOp .NotIn (.str k t) (.ref d)) Q E s := wpAny_notIn_of (strKind_is prog w k t) hds (S.dictS hd).mapOf (h _ (S.toks _))
theorem methD {name : Str} {id : String} {d : Addr} {pl : Sem Bool} {Q : Value × List Value → Shared → Prop} (slot : Slot "dict" name id) (hty : typeOf (.builtin id) = pure (.type "method_descriptor")) (S : At K s₀ X F N s) {P : OP} (hP : ∀ o, P o → o.ExactDict) (hd : Here F N d P)
    (h : Q (.builtin id, [.ref d]) s) : wpAny (model prog w) A (getMethod (.ref d) name pl) Q E s := by
  obtain ⟨o, e, p⟩ := S.here hd
  have q := hP o p
  exact getMethod_builtin ⟨_, e, q.1⟩ PySem.F.plainAttrs_dict slot hty (fun a z => by cases z; exact ⟨_, e, q.2.1⟩) h
theorem exactS {kvs : List (Str × Value)} (o : Obj) (h : DictS prog w kvs o) : o.ExactDict := let ⟨_, _, e, _⟩ := h; e
theorem exactI {kvs : List (Int × Value)} (o : Obj) (h : DictI prog w kvs o) : o.ExactDict := let ⟨_, _, e, _⟩ := h; e
theorem getDI {d : Addr} {kvs : List (Int × Value)} {k : Int} {t : Tok} {dv : Value} (S : At K s₀ X F N s) (hd : Here F N d (DictI prog w kvs)) (hds : (d == sysModules) = false) (h : ∀ s', At K s₀ X F N s' → Q ((valueAt kvs k).getD dv) s') :
    wpAny (model prog w) A (call (.builtin "dict.get") [.ref d, .int k t, dv]) Q E s :=
  call_meetsIn PySem.F.slot_dict_get (S.dictI hd).typeIs PySem.F.entry_dict_get (PySem.F.args_dict_get_3 _ _ _) (meets_dict_get_default (intKind prog w) d (intKind_is prog w k t) hds dv) ⟨_, (S.dictI hd).mapOf, h _ (S.toks _)⟩
theorem getDS1 {d : Addr} {kvs : List (Str × Value)} {k : Str} {t : Tok} (S : At K s₀ X F N s) (hd : Here F N d (DictS prog w kvs)) (hds : (d == sysModules) = false) (h : ∀ s', At K s₀ X F N s' → Q ((valueAt kvs k).getD .none) s') :
    wpAny (model prog w) A (call (.builtin "dict.get") [.ref d, .str k t]) Q E s :=
  call_meetsIn PySem.F.slot_dict_get (S.dictS hd).typeIs PySem.F.entry_dict_get (PySem.F.args_dict_get_2 _ _) (meets_dict_get (strKind prog w) d (strKind_is prog w k t) hds) ⟨_, (S.dictS hd).mapOf, h _ (S.toks _)⟩
theorem getDS2 {d : Addr} {kvs : List (Str × Value)} {k : Str} {t : Tok} {dv : Value} (S : At K s₀ X F N s) (hd : Here F N d (DictS prog w kvs)) (hds : (d == sysModules) = false) (h : ∀ s', At K s₀ X F N s' → Q ((valueAt kvs k).getD dv) s') :
    wpAny (model prog w) A (call (.builtin "dict.get") [.ref d, .str k t, dv]) Q E s :=
  call_meetsIn PySem.F.slot_dict_get (S.dictS hd).typeIs PySem.F.entry_dict_get (PySem.F.args_dict_get_3 _ _ _) (meets_dict_get_default (strKind prog w) d (strKind_is prog w k t) hds dv) ⟨_, (S.dictS hd).mapOf, h _ (S.toks _)⟩
theorem iterRange {r : Addr} {a b : Int} {n : Nat} (S : At K s₀ X F N s) (hr : Here F N r (RangeO a b 1)) (hn : n = (b - a).toNat) (ha : -1000000 ≤ a) (ha' : a ≤ 1000000) (hb : -1000000 ≤ b) (hb' : b ≤ 1000000)
    (h : ∀ it s', s₀.heap.objs.size ≤ it → At K s₀ X F ((it, (fun i : Nat => RangeIterO (a + (i : Int) * 1) ((n : Int) - (i : Int)) 1) 0) :: N) s' → Q (.ref it) s') : wpAny (model prog w) A (pyIter (.ref r)) Q E s := by
  have hsz : Builtin.Range.rangeSize a b 1 = (n : Int) := by
    unfold Builtin.Range.rangeSize
    rw [if_pos (by decide)]
    split
    · rw [Int.ediv_one]; lia
    · lia
  refine iterR S hr ?_ fun it s' hit S' => h it s' hit ?_
  · unfold Builtin.Range.small
    rw [hsz]
    simp only [Builtin.Range.rangeFitsLong, Bool.and_eq_true, decide_eq_true_eq, Bool.or_eq_true]
    refine ⟨⟨⟨⟨⟨by lia, by lia⟩, by lia, by lia⟩, by decide⟩, by lia, by lia⟩, .inr ?_⟩
    rw [if_pos (by decide)]
    simp only [Builtin.Range.rangeFitsLong, Bool.and_eq_true, decide_eq_true_eq]
    lia
  · rw [hsz] at S'
    simpa using S'
theorem unpackT {elts : List Expr} {kd : Nat} {pos : Pos} {t : Addr} {xs : List Value} {Q : Unit → Shared → Prop} (hh : A.handled = none) (S : At K s₀ X F N s) (hl : Here F N t (TupO xs)) (hN : ∃ p ∈ N, s₀.heap.objs.size ≤ p.1)
    (hn : (assignEach elts env).length = xs.length) (hstar : (assignEach elts env).findIdx? (·.1) = none)
    (h : ∀ s', At K s₀ X F N s' → wpAny (model prog w) A (assignInOrder ((assignEach elts env).map (·.2)) xs) Q E s') :
    wpAny (model prog w) A (assign (.Tuple elts kd pos) env (.ref t)) Q E s := by
  refine wpAny_assign_Tuple hh (S.isTuple hl) (by rw [List.size_toArray]; exact hn) hstar fun h' he => ?_
  refine h { s with heap := h' } ?_
  have S1 : At K s₀ X F ((s.heap.objs.size, fun _ => True) :: N) { s with heap := s.heap.push { cls := .none }, toks := s.toks } := S.push trivial rfl
  obtain ⟨p, hp, hle⟩ := hN
  refine ⟨S.top, S.rest, ?_, fun b o e n => he b o (Nat.ne_of_lt (Heap.lt_size (S.ext b o e n))) (S.ext b o e n), fun b o e => he b o (Nat.ne_of_lt (Heap.lt_size (S.fz b o e))) (S.fz b o e), fun q hq => ?_, S.nodup⟩
  · obtain ⟨⟨o, e, _⟩, _⟩ := S.news p hp
    exact Nat.le_of_lt (Nat.lt_of_le_of_lt hle (Heap.lt_size (he _ _ (Nat.ne_of_lt (Heap.lt_size e)) e)))
  · obtain ⟨⟨o, e, r⟩, x⟩ := S.news q hq
    exact ⟨⟨o, he _ _ (Nat.ne_of_lt (Heap.lt_size e)) e, r⟩, x⟩
theorem neI {a b : Int} {t u : Tok} (h : Q (.bool (a != b)) s) : wpAny (model prog w) A (compareOp .NotEq (.int a t) (.int b u)) Q E s := PyProof.Rows.ne_int h
theorem eqI {a b : Int} {t u : Tok} (h : Q (.bool (a == b)) s) : wpAny (model prog w) A (compareOp .Eq (.int a t) (.int b u)) Q E s := PyProof.Rows.eq_int h
theorem ltI {a b : Int} {t u : Tok} (h : Q (.bool (decide (a < b))) s) : wpAny (model prog w) A (compareOp .Lt (.int a t) (.int b u)) Q E s := PyProof.Rows.lt_int h
theorem leI {a b : Int} {t u : Tok} (h : Q (.bool (decide (a ≤ b))) s) : wpAny (model prog w) A (compareOp .LtE (.int a t) (.int b u)) Q E s := PyProof.Rows.le_int h
theorem gtI {a b : Int} {t u : Tok} (h : Q (.bool (decide (b < a))) s) : wpAny (model prog w) A (compareOp .Gt (.int a t) (.int b u)) Q E s := PyProof.Rows.gt_int h
end
inductive Mk : Prop
  | mk
/-- a cut at a statement: its post is a name -/
structure Cut (M : Model) (A : Around) (rest : List PySem.Stmt) (env : Env) (Q : Flow → Shared → Prop) (E : Value → Shared → Prop) (Q1 : Flow → Shared → Prop) : Prop where
  n : ∀ {s'}, wpAny M A (execs rest env) Q E s' → Q1 .next s'
  r : ∀ {v s'}, Q (.ret v) s' → Q1 (.ret v) s'
  b : ∀ {s'}, Q .brk s' → Q1 .brk s'
  c : ∀ {s'}, Q .cont s' → Q1 .cont s'
theorem execs_consQ {M : Model} {A : Around} {st : PySem.Stmt} {rest : List PySem.Stmt} {env : Env} {Q : Flow → Shared → Prop} {E : Value → Shared → Prop} {s : Shared} (_ : Mk)
    (h : ∀ Q1 : Flow → Shared → Prop, Cut M A rest env Q E Q1 → wpAny M A (exec st env) Q1 E s) : wpAny M A (execs (st :: rest) env) Q E s :=
  wpAny_execs_cons (h _ ⟨fun x => x, fun x => x, fun x => x, fun x => x⟩)

-- M6
section
variable {prog : Program} {w : World} {A : Around} {K : Frag} {s₀ s : Shared} {X : List Addr} {F : Fz} {N : Led} {Q : Value → Shared → Prop} {E : Value → Shared → Prop}
/-- a call of one of the text's own defs with cells is entered -/
theorem enterC {name qual : Str} {params : Arguments} {body : List Stmt} {scope : Scope} {dV kV doc pm cdv ct oc : Value} {an od : Option Addr} {osl : Array (Option Value)} {f : Addr} {args : List Value} {binds : List (Str × Value)} {cs : Nat → List (Addr × Option Value)} {U : Led} {k : Nat}
    (S : At K s₀ X F N s) (hm : Rm A (k + 1)) (hU : ∀ p ∈ U, p ∈ N) (hUn : (U.map (·.1)).Nodup)
    (ho : K.lookup f = some ⟨oc, od, .func (fnOf name qual params body scope dV kV doc pm an cdv ct), osl⟩) (hcd : codeIn K cdv qual = true)
    (hbind : BindsTo s (fnOf name qual params body scope dV kV doc pm an cdv ct) ⟨args, []⟩ binds)
    (hkind : (binds.all fun y => scope.names.lookup y.1 == some .local || scope.names.lookup y.1 == some .cell) = true)
    (hnd : ((cellsFrom 0 scope.names []).map (·.1)).Nodup)
    (hcs : ∀ L, (cellsFrom (L + 1) scope.names []).map (fun p => (p.2, bindC (envX qual scope L f cdv (cellsFrom (L + 1) scope.names [])).kindOf binds (fun _ => none) p.1)) = cs L)
    (h : ∀ L s', s.heap.objs.size ≤ L → At K s (U.map (·.1)) F ((L, NsO (bindL (envX qual scope L f cdv (cellsFrom (L + 1) scope.names [])).kindOf binds fun _ => none)) :: ((cs L).map (fun p => (p.1, CellO p.2)) ++ U)) s' → Rm (A.deeper (envX qual scope L f cdv (cellsFrom (L + 1) scope.names []))) k →
      wpAny (model prog w) (A.deeper (envX qual scope L f cdv (cellsFrom (L + 1) scope.names []))) (execs body (envX qual scope L f cdv (cellsFrom (L + 1) scope.names [])))
        (fun fl s'' => Q (match fl with | .ret v => v | _ => .none) s'') (fun _ _ => False) s')
    (hco : scope.isCoroutine = false := by rfl) (hgen : scope.isGenerator = false := by rfl) (hk : scope.kind = .function := by rfl) :
    wpAny (model prog w) A (call (.ref f) args) Q E s := by
  have G := S.gl
  obtain ⟨p, loose, mg, mb, T⟩ := G.t
  refine wpAny_call (codeAny_call_function hm.room (G.k _ _ ho) rfl hco hgen rfl (codeRec_of G.k hcd) (hbind _ _ _ _ ?_))
  refine wpAny_newFunctionEnv_cells hk (kindsX hkind _) fun env' he s' x => ?_
  subst he
  refine ⟨T.nolimit.keeps x.toInCall.keep, codeAny_func ?_⟩
  have hk₁ := x.toInCall.keep
  have hlen := x.toInCall.fresh
  obtain ⟨h₁, tk, rfl⟩ := x.toInCall.same
  refine wpAny_mono (h s.heap.objs.size _ (Nat.le_refl _) ?_ (hm.deeper _)) (fun _ _ q => q) (fun _ _ q => q.elim)
  have hns := x.toInCall.ns
  obtain ⟨oL, hL, PL⟩ := ns_iff.mp hns
  have hcell : ∀ n c, (n, c) ∈ cellsFrom (s.heap.objs.size + 1) scope.names [] → s.heap.objs.size < c ∧ h₁.IsCell c (bindC (envX qual scope s.heap.objs.size f cdv (cellsFrom (s.heap.objs.size + 1) scope.names [])).kindOf binds (fun _ => none) n) := fun n c hm =>
    ⟨x.above n c hm, x.cell n c (lookup_of_mem_nodup (cellsFrom_names scope.names 0 (s.heap.objs.size + 1) [] [] rfl ▸ hnd) hm)⟩
  refine ⟨S.top, ⟨rfl, rfl, rfl⟩, Nat.le_of_lt (Nat.lt_of_le_of_lt (Nat.le_refl _) (Heap.lt_size hL)), fun b o e _ => hk₁ b o e, fun b o e => hk₁ b o (S.fz b o e), fun q hq => ?_, ?_⟩
  · rcases List.mem_cons.mp hq with rfl | hq
    · exact ⟨⟨oL, hL, PL⟩, S.fresh (Nat.le_refl _), .inl (Nat.le_refl _)⟩
    · rcases List.mem_append.mp hq with hq | hq
      · obtain ⟨p, hp, rfl⟩ := List.mem_map.mp hq
        rw [← hcs] at hp
        obtain ⟨⟨n, c⟩, hc, rfl⟩ := List.mem_map.mp hp
        obtain ⟨hlt, o, e, hd⟩ := hcell n c hc
        exact ⟨⟨o, e, hd⟩, S.fresh (Nat.le_of_lt hlt), .inl (Nat.le_of_lt hlt)⟩
      · obtain ⟨⟨o, e, r⟩, b, _⟩ := S.news q (hU q hq)
        exact ⟨⟨o, hk₁ _ _ e, r⟩, b, .inr (List.mem_map.mpr ⟨q, hq, rfl⟩)⟩
  · have hU' : ∀ a ∈ U.map (·.1), a < s.heap.objs.size := fun a ha => by
      obtain ⟨q, hq, rfl⟩ := List.mem_map.mp ha
      exact S.lt (hU q hq)
    have e1 : (((cs s.heap.objs.size).map (fun p => ((p.1, CellO p.2) : Addr × OP))).map (·.1)) = (cellsFrom (s.heap.objs.size + 1) scope.names []).map (·.2) := by
      rw [← hcs]; simp only [List.map_map]; rfl
    rw [List.map_cons, List.map_append, e1, List.nodup_cons]
    refine ⟨fun hx => ?_, ?_⟩
    · rcases List.mem_append.mp hx with hx | hx
      · obtain ⟨⟨n, c⟩, hc, e⟩ := List.mem_map.mp hx
        have := (hcell n c hc).1
        have e' : c = s.heap.objs.size := e
        rw [e'] at this
        exact absurd this (Nat.lt_irrefl _)
      · exact absurd (hU' _ hx) (Nat.lt_irrefl _)
    · rw [List.nodup_append]
      refine ⟨?_, hUn, fun a ha b hb e => ?_⟩
      · exact List.pairwise_map.mpr x.apart
      · subst e
        obtain ⟨⟨n, c⟩, hc, e⟩ := List.mem_map.mp ha
        have h1 := (hcell n c hc).1
        have e' : c = a := e
        have h2 := hU' _ hb
        rw [e'] at h1
        exact absurd (Nat.lt_trans h1 h2) (Nat.lt_irrefl _)

theorem modI {a b : Int} {t u : Tok} (S : At K s₀ X F N s) (hb : 0 < b) (h : ∀ t s', At K s₀ X F N s' → Q (.int (a % b) t) s') : wpAny (model prog w) A (binaryOp .Mod (.int a t) (.int b u)) Q E s := by
  refine PyProof.Rows.mod_int (by lia) ?_
  rw [Int.fmod_eq_emod_of_nonneg a (by lia)]
  exact h _ _ (S.toks _)
theorem fdivI {a b : Int} {t u : Tok} (S : At K s₀ X F N s) (hb : 0 < b) (hb' : b < 1000000) (h : ∀ t s', At K s₀ X F N s' → Q (.int (a / b) t) s') : wpAny (model prog w) A (binaryOp .FloorDiv (.int a t) (.int b u)) Q E s := by
  refine PyProof.Rows.floordiv_int (by lia) ?_ (.inl (PyProof.noPylong_small (by lia)))
  rw [Int.fdiv_eq_ediv_of_nonneg a (by lia)]
  exact h _ _ (S.toks _)
theorem range3 {a b c : Int} {t u v : Tok} (S : At K s₀ X F N s) (hc : 0 < c) (hc' : c < 1000) (h : ∀ r s', At K s₀ X F ((r, RangeO a b c) :: N) s' → Q (.ref r) s') : wpAny (model prog w) A (call (.type "range") [.int a t, .int b u, .int c v]) Q E s :=
  call_range_3 (by lia) (h _ _ (S.push (t := _) ⟨_, _, _, rfl⟩ rfl)) (.inl (PyProof.noPylong_small (by lia)))
theorem iterRange' {r : Addr} {a b c : Int} {n : Nat} (S : At K s₀ X F N s) (hr : Here F N r (RangeO a b c)) (hc : 0 < c) (hc' : c ≤ 1000) (hn : (n : Int) = Builtin.Range.rangeSize a b c) (hn' : n ≤ 1000000) (ha : -1000000 ≤ a) (ha' : a ≤ 1000000) (hb : -1000000 ≤ b) (hb' : b ≤ 1000000)
    (h : ∀ it s', s₀.heap.objs.size ≤ it → At K s₀ X F ((it, (fun i : Nat => RangeIterO (a + (i : Int) * c) ((n : Int) - (i : Int)) c) 0) :: N) s' → Q (.ref it) s') : wpAny (model prog w) A (pyIter (.ref r)) Q E s := by
  refine iterR S hr ?_ fun it s' hit S' => h it s' hit ?_
  · unfold Builtin.Range.small
    rw [← hn]
    simp only [Builtin.Range.rangeFitsLong, Bool.and_eq_true, decide_eq_true_eq, Bool.or_eq_true]
    refine ⟨⟨⟨⟨⟨by lia, by lia⟩, by lia, by lia⟩, by lia, by lia⟩, by lia, by lia⟩, .inr ?_⟩
    rw [if_pos hc]
    simp only [Builtin.Range.rangeFitsLong, Bool.and_eq_true, decide_eq_true_eq]
    lia
  · rw [← hn] at S'
    simpa using S'
end

-- M7
section
variable {prog : Program} {w : World} {A : Around} {K : Frag} {s₀ s : Shared} {X : List Addr} {F : Fz} {N : Led} {E : Value → Shared → Prop} {env : Env}
/-- one turn of a comprehension, the ledger kept -/
abbrev CTurn (prog : Program) (w : World) (A : Around) (K : Frag) (s₀ : Shared) (X : List Addr) (env : Env) (elt : Expr) (x : Str) (ifs : List Expr) (scope : Scope) (cl : List (Str × Addr)) (it : Addr) (PI : Nat → OP) (n : Nat) (val : Nat → Value → Prop) (N : Led) (I : Nat → Fz → List Value → Prop) : Prop :=
  ∀ i F ys v (mc : Str → Option Value) (C acc : Addr) s', i < n → val i v → I i F ys → At K s₀ X F ((C, NsO fun y => if y = x then some v else mc y) :: (it, PI (i + 1)) :: (acc, ListO ys) :: N) s' →
        wpAny (model prog w) A (forIn ifs true fun c r => if r = true then do let ok ← isTrue c (compEnvC scope cl C env) (eval c (compEnvC scope cl C env)); pure (ForInStep.yield ok) else pure (ForInStep.yield r)) (fun ok s₃ =>
          if ok = true then wpAny (model prog w) A (eval elt (compEnvC scope cl C env)) (fun y s₄ => ∃ F' mc', I (i + 1) F' (ys ++ [y]) ∧ At K s₀ X F' ((C, NsO mc') :: (it, PI (i + 1)) :: (acc, ListO ys) :: N) s₄) NoE s₃
          else ∃ F' mc', I (i + 1) F' ys ∧ At K s₀ X F' ((C, NsO mc') :: (it, PI (i + 1)) :: (acc, ListO ys) :: N) s₃) NoE s'
theorem cturn {elt : Expr} {x : Str} {ifs : List Expr} {scope : Scope} {cl : List (Str × Addr)} {it : Addr} {PI : Nat → OP} {n : Nat} {val : Nat → Value → Prop} {N : Led} {I : Nat → Fz → List Value → Prop}
    (h : CTurn prog w A K s₀ X env elt x ifs scope cl it PI n val N I) :
    ∀ i F ys N' v (mc : Str → Option Value) (C acc : Addr) s', i < n → val i v → (I i F ys ∧ N' = N) → At K s₀ X F ((C, NsO fun y => if y = x then some v else mc y) :: (it, PI (i + 1)) :: (acc, ListO ys) :: N') s' →
        wpAny (model prog w) A (forIn ifs true fun c r => if r = true then do let ok ← isTrue c (compEnvC scope cl C env) (eval c (compEnvC scope cl C env)); pure (ForInStep.yield ok) else pure (ForInStep.yield r)) (fun ok s₃ =>
          if ok = true then wpAny (model prog w) A (eval elt (compEnvC scope cl C env)) (fun y s₄ => ∃ F' mc' N', (I (i + 1) F' (ys ++ [y]) ∧ N' = N) ∧ At K s₀ X F' ((C, NsO mc') :: (it, PI (i + 1)) :: (acc, ListO ys) :: N') s₄) NoE s₃
          else ∃ F' mc' N', (I (i + 1) F' ys ∧ N' = N) ∧ At K s₀ X F' ((C, NsO mc') :: (it, PI (i + 1)) :: (acc, ListO ys) :: N') s₃) NoE s' := by
  rintro i F ys N' v mc C acc s' hi hv ⟨hI, rfl⟩ S'
  refine wpAny_mono (h i F ys v mc C acc s' hi hv hI S') (fun ok s₃ h₃ => ?_) fun _ _ f => f
  cases ok with
  | false =>
    simp only [Bool.false_eq_true, if_false] at h₃ ⊢
    obtain ⟨F', mc', a, b⟩ := h₃
    exact ⟨F', mc', _, ⟨a, rfl⟩, b⟩
  | true =>
    simp only [if_true] at h₃ ⊢
    exact wpAny_mono h₃ (fun y s₄ h₄ => let ⟨F', mc', a, b⟩ := h₄; ⟨F', mc', _, ⟨a, rfl⟩, b⟩) fun _ _ f => f
/-- a list comprehension as an expression, the ledger kept -/
theorem compE0 {elt iter : Expr} {x : Str} {px : Pos} {ifs : List Expr} {scope : Scope} {cl : List (Str × Addr)} {pos : Pos} {Q : Value → Shared → Prop}
    (hclos : closureFor scope env = pure cl) (hcell : ∀ y ∈ scope.names, y.2 ≠ .cell) (hkind : scope.kind = .function) (hnames : ∀ y ∈ scope.names, y.2 = .local → scope.names.lookup y.1 = some .local) (hx : scope.names.lookup x = some .local)
    (h : wpAny (model prog w) A (eval iter env) (fun xv s₁ => wpAny (model prog w) A (pyIter xv) (fun itv s₂ => ∃ it PI n val D F N, ∃ I : Nat → Fz → List Value → Prop,
      itv = .ref it ∧ Src prog w A K s₀ X it PI n val D ∧ n ≤ sizeLine ∧ At K s₀ X F ((it, PI 0) :: N) s₂ ∧ I 0 F [] ∧ (∀ i F ys N', I i F ys → (∀ p ∈ N, p ∈ N') → D F N') ∧
      CTurn prog w A K s₀ X env elt x ifs scope cl it PI n val N I ∧
      (∀ F ys (acc : Addr) s', I n F ys → ys.length ≤ n → s₀.heap.objs.size ≤ acc → At K s₀ X F ((acc, ListO ys) :: N) s' → Q (.ref acc) s')) NoE s₁) NoE s)
    (hs : ∀ x, foldedSetIterable iter env x = pure x := by intro _; rfl) :
    wpAny (model prog w) A (eval (.ListComp elt [⟨.Name x px, iter, ifs, 0⟩] scope pos) env) Q E s := by
  refine compE (K := K) (X := X) (s₀ := s₀) hclos hcell hkind hnames hx (wpAny_mono h (fun xv s₁ h₁ => wpAny_mono h₁ (fun itv s₂ h₂ => ?_) fun _ _ f => f) fun _ _ f => f) hs
  obtain ⟨it, PI, n, val, D, F, N, I, rfl, W, hn, S, h0, hD, turn, done⟩ := h₂
  exact ⟨it, PI, n, val, D, F, N, fun i F ys N' => I i F ys ∧ N' = N, rfl, W, hn, S, ⟨h0, rfl⟩, fun i F ys N1 N' hI hN => hD i F ys N' hI.1 (hI.2 ▸ hN), cturn turn, fun F ys N' acc s' hI hl ha S' => done F ys acc s' hI.1 hl ha (hI.2 ▸ S')⟩
/-- a list comprehension whose list a local name takes at once, the ledger kept -/
theorem compA0 {elt iter : Expr} {x y : Str} {px py : Pos} {ifs : List Expr} {scope : Scope} {cl : List (Str × Addr)} {pos spos : Pos} {Q : Flow → Shared → Prop}
    (hsw : swapsWith (.ListComp elt [⟨.Name x px, iter, ifs, 0⟩] scope pos) (some (.Name y py)) spos.line env = pure true)
    (hclos : closureFor scope env = pure cl) (hcell : ∀ y ∈ scope.names, y.2 ≠ .cell) (hkind : scope.kind = .function) (hnames : ∀ y ∈ scope.names, y.2 = .local → scope.names.lookup y.1 = some .local) (hx : scope.names.lookup x = some .local)
    (hy : env.kindOf y = some .local) (hke : env.scope.kind = .function)
    (h : wpAny (model prog w) A (eval iter env) (fun xv s₁ => wpAny (model prog w) A (pyIter xv) (fun itv s₂ => ∃ it PI n val D F m N, ∃ I : Nat → Fz → List Value → Prop,
      itv = .ref it ∧ Src prog w A K s₀ X it PI n val D ∧ n ≤ sizeLine ∧ At K s₀ X F ((it, PI 0) :: (env.locals, NsO m) :: N) s₂ ∧ I 0 F [] ∧ (∀ i F ys N', I i F ys → (∀ p ∈ (env.locals, NsO m) :: N, p ∈ N') → D F N') ∧
      CTurn prog w A K s₀ X env elt x ifs scope cl it PI n val ((env.locals, NsO m) :: N) I ∧
      (∀ F ys (acc : Addr) s', I n F ys → ys.length ≤ n → s₀.heap.objs.size ≤ acc → At K s₀ X F ((env.locals, NsO fun z => if z = y then some (.ref acc) else m z) :: (acc, ListO ys) :: N) s' → Q .next s')) NoE s₁) NoE s)
    (hs : ∀ x, foldedSetIterable iter env x = pure x := by intro _; rfl) :
    wpAny (model prog w) A (exec (.Assign [.Name y py] (.ListComp elt [⟨.Name x px, iter, ifs, 0⟩] scope pos) spos) env) Q E s := by
  refine compA (K := K) (X := X) (s₀ := s₀) hsw hclos hcell hkind hnames hx hy hke (wpAny_mono h (fun xv s₁ h₁ => wpAny_mono h₁ (fun itv s₂ h₂ => ?_) fun _ _ f => f) fun _ _ f => f) hs
  obtain ⟨it, PI, n, val, D, F, m, N, I, rfl, W, hn, S, h0, hD, turn, done⟩ := h₂
  refine ⟨it, PI, n, val, D, F, (env.locals, NsO m) :: N, fun i F ys N' => I i F ys ∧ N' = (env.locals, NsO m) :: N, rfl, W, hn, S, ⟨h0, rfl⟩, fun i F ys N1 N' hI hN => hD i F ys N' hI.1 (hI.2 ▸ hN), cturn turn, ?_⟩
  rintro F ys N' ⟨hI, rfl⟩
  exact ⟨m, N, rfl, fun acc s' hl ha S' => done F ys acc s' hI hl ha S'⟩
variable {a b : Int} {t u : Tok} {Q : Value → Shared → Prop}
theorem ltT (c : a < b) (h : Q (.bool true) s) : wpAny (model prog w) A (compareOp .Lt (.int a t) (.int b u)) Q E s := ltI (by rw [decide_eq_true c]; exact h)
theorem ltF (c : ¬ a < b) (h : Q (.bool false) s) : wpAny (model prog w) A (compareOp .Lt (.int a t) (.int b u)) Q E s := ltI (by rw [decide_eq_false c]; exact h)
theorem leT (c : a ≤ b) (h : Q (.bool true) s) : wpAny (model prog w) A (compareOp .LtE (.int a t) (.int b u)) Q E s := leI (by rw [decide_eq_true c]; exact h)
theorem leF (c : ¬ a ≤ b) (h : Q (.bool false) s) : wpAny (model prog w) A (compareOp .LtE (.int a t) (.int b u)) Q E s := leI (by rw [decide_eq_false c]; exact h)
theorem gtT (c : b < a) (h : Q (.bool true) s) : wpAny (model prog w) A (compareOp .Gt (.int a t) (.int b u)) Q E s := gtI (by rw [decide_eq_true c]; exact h)
theorem gtF (c : ¬ b < a) (h : Q (.bool false) s) : wpAny (model prog w) A (compareOp .Gt (.int a t) (.int b u)) Q E s := gtI (by rw [decide_eq_false c]; exact h)
theorem eqT (c : a = b) (h : Q (.bool true) s) : wpAny (model prog w) A (compareOp .Eq (.int a t) (.int b u)) Q E s := eqI (by rw [beq_iff_eq.mpr c]; exact h)
theorem eqF (c : a ≠ b) (h : Q (.bool false) s) : wpAny (model prog w) A (compareOp .Eq (.int a t) (.int b u)) Q E s := eqI (by rw [beq_eq_false_iff_ne.mpr c]; exact h)
theorem neT (c : a ≠ b) (h : Q (.bool true) s) : wpAny (model prog w) A (compareOp .NotEq (.int a t) (.int b u)) Q E s := neI (by rw [bne_iff_ne.mpr c]; exact h)
theorem neF (c : a = b) (h : Q (.bool false) s) : wpAny (model prog w) A (compareOp .NotEq (.int a t) (.int b u)) Q E s := neI (by rw [c, bne_self_eq_false]; exact h)
end

-- B1
open PySem.Builtin.Bytes in
theorem gives_bytes_lt (b c : Array UInt8) (t u : Tok) : Gives (PySem.Builtin.«bytes.__lt__» ⟨[.bytes b t, .bytes c u], []⟩) (.val (.bool (order b.toList c.toList == .lt))) := by
  refine .of_wp fun M A E s Q hq => ?_
  show wpAny M A (isInstance (.bytes c u) (.type "bytes") >>= fun r => _) _ E s
  refine wpAny_bind (wpAny_isInstance (typeIs_bytes s c u) PySem.F.sub_bytes_bytes ?_)
  exact wpAny_pure ⟨_, rfl, hq⟩
open PySem.Builtin.Bytes in
theorem gives_bytes_le (b c : Array UInt8) (t u : Tok) : Gives (PySem.Builtin.«bytes.__le__» ⟨[.bytes b t, .bytes c u], []⟩) (.val (.bool (order b.toList c.toList != .gt))) := by
  refine .of_wp fun M A E s Q hq => ?_
  show wpAny M A (isInstance (.bytes c u) (.type "bytes") >>= fun r => _) _ E s
  refine wpAny_bind (wpAny_isInstance (typeIs_bytes s c u) PySem.F.sub_bytes_bytes ?_)
  exact wpAny_pure ⟨_, rfl, hq⟩
open PySem.Builtin.Bytes in
theorem gives_bytes_gt (b c : Array UInt8) (t u : Tok) : Gives (PySem.Builtin.«bytes.__gt__» ⟨[.bytes b t, .bytes c u], []⟩) (.val (.bool (order b.toList c.toList == .gt))) := by
  refine .of_wp fun M A E s Q hq => ?_
  show wpAny M A (isInstance (.bytes c u) (.type "bytes") >>= fun r => _) _ E s
  refine wpAny_bind (wpAny_isInstance (typeIs_bytes s c u) PySem.F.sub_bytes_bytes ?_)
  exact wpAny_pure ⟨_, rfl, hq⟩
theorem slot_bytes_lt : Slot "bytes" (cmpInfo .Lt).2.1 "bytes.__lt__" :=
  .of (owner := "bytes") (n := "__lt__") (by rw [typeLookup_type, builtinLookup_eq_fast]; kernel_rfl) (by decide +kernel) (by decide +kernel) (by decide +kernel)
    (by first | exact .inl (by decide +kernel) | exact .inr (by decide +kernel)) (by rw [isSubtype_type]; kernel_rfl)
theorem slot_bytes_le : Slot "bytes" (cmpInfo .LtE).2.1 "bytes.__le__" :=
  .of (owner := "bytes") (n := "__le__") (by rw [typeLookup_type, builtinLookup_eq_fast]; kernel_rfl) (by decide +kernel) (by decide +kernel) (by decide +kernel)
    (by first | exact .inl (by decide +kernel) | exact .inr (by decide +kernel)) (by rw [isSubtype_type]; kernel_rfl)
theorem slot_bytes_gt : Slot "bytes" (cmpInfo .Gt).2.1 "bytes.__gt__" :=
  .of (owner := "bytes") (n := "__gt__") (by rw [typeLookup_type, builtinLookup_eq_fast]; kernel_rfl) (by decide +kernel) (by decide +kernel) (by decide +kernel)
    (by first | exact .inl (by decide +kernel) | exact .inr (by decide +kernel)) (by rw [isSubtype_type]; kernel_rfl)
theorem entry_bytes_lt : entryFor table "bytes.__lt__" = some PySem.Builtin.«bytes.__lt__» := entryFor_of_tree (by kernel_rfl)
theorem entry_bytes_le : entryFor table "bytes.__le__" = some PySem.Builtin.«bytes.__le__» := entryFor_of_tree (by kernel_rfl)
theorem entry_bytes_gt : entryFor table "bytes.__gt__" = some PySem.Builtin.«bytes.__gt__» := entryFor_of_tree (by kernel_rfl)
theorem args_bytes_lt_2 (a b : Value) : argsOk "bytes.__lt__" ⟨[a, b], []⟩ := by
  unfold argsOk; rw [signature?_of (id := "bytes.__lt__") (n := ['_', '_', 't', 'l', '_', '_']) (o := ['s', 'e', 't', 'y', 'b']) (by kernel_rfl) FB.owner_bytes]; kernel_rfl
theorem args_bytes_le_2 (a b : Value) : argsOk "bytes.__le__" ⟨[a, b], []⟩ := by
  unfold argsOk; rw [signature?_of (id := "bytes.__le__") (n := ['_', '_', 'e', 'l', '_', '_']) (o := ['s', 'e', 't', 'y', 'b']) (by kernel_rfl) FB.owner_bytes]; kernel_rfl
theorem args_bytes_gt_2 (a b : Value) : argsOk "bytes.__gt__" ⟨[a, b], []⟩ := by
  unfold argsOk; rw [signature?_of (id := "bytes.__gt__") (n := ['_', '_', 't', 'g', '_', '_']) (o := ['s', 'e', 't', 'y', 'b']) (by kernel_rfl) FB.owner_bytes]; kernel_rfl
section
variable {prog : Program} {w : World} {A : Around} {E : Value → Shared → Prop} {s : Shared} {b c : Array UInt8} {t u : Tok} {Q : Value → Shared → Prop}
theorem lt_bytes (h : Q (.bool (PySem.Builtin.Bytes.order b.toList c.toList == .lt)) s) : wpAny (model prog w) A (compareOp .Lt (.bytes b t) (.bytes c u)) Q E s :=
  compareOp_gives (op := .Lt) (typeIs_bytes s b t) (typeIs_bytes s c u) slot_bytes_lt entry_bytes_lt (args_bytes_lt_2 _ _) (gives_bytes_lt b c t u) (fun e => nomatch e) h
theorem le_bytes (h : Q (.bool (PySem.Builtin.Bytes.order b.toList c.toList != .gt)) s) : wpAny (model prog w) A (compareOp .LtE (.bytes b t) (.bytes c u)) Q E s :=
  compareOp_gives (op := .LtE) (typeIs_bytes s b t) (typeIs_bytes s c u) slot_bytes_le entry_bytes_le (args_bytes_le_2 _ _) (gives_bytes_le b c t u) (fun e => nomatch e) h
theorem gt_bytes (h : Q (.bool (PySem.Builtin.Bytes.order b.toList c.toList == .gt)) s) : wpAny (model prog w) A (compareOp .Gt (.bytes b t) (.bytes c u)) Q E s :=
  compareOp_gives (op := .Gt) (typeIs_bytes s b t) (typeIs_bytes s c u) slot_bytes_gt entry_bytes_gt (args_bytes_gt_2 _ _) (gives_bytes_gt b c t u) (fun e => nomatch e) h
end

-- E1
def RevIterO (l : Addr) (i : Int) : OP := fun o => o.cls = .type "list_reverseiterator" ∧ o.data = .fields #[.ref l, rawInt i]
theorem nolen_lri : typeLookup (.type "list_reverseiterator") "__len__" = pure none := by rw [typeLookup_type, builtinLookup_eq_fast]; kernel_rfl
theorem hint_lri : typeLookup (.type "list_reverseiterator") "__length_hint__" = pure (some (.builtin "list_reverseiterator.__length_hint__")) := by rw [typeLookup_type, builtinLookup_eq_fast]; kernel_rfl
section
variable {prog : Program} {w : World} {A : Around} {K : Frag} {s₀ s : Shared} {X : List Addr} {F : Fz} {N : Led} {E : Value → Shared → Prop} {env : Env}
theorem revL {l : Addr} {xs : List Value} {Q : Value → Shared → Prop} (S : At K s₀ X F N s) (hl : Here F N l (ListO xs))
    (h : ∀ it s', s₀.heap.objs.size ≤ it → At K s₀ X F ((it, RevIterO l ((xs.length : Int) - 1)) :: N) s' → Q (.ref it) s') : wpAny (model prog w) A (call (.type "reversed") [.ref l]) Q E s := by
  refine call_reversed_list (S.isList hl) (h _ { s with heap := s.heap.push (revObj l ((xs.toArray.size : Int) - 1)) } S.size (S.push (t := s.toks) ⟨rfl, ?_⟩ rfl))
  rw [List.size_toArray]; rfl
theorem nextRev {it l : Addr} {j i : Nat} {xs : List Value} {v : Value} {Q : Option Value → Shared → Prop} (S : At K s₀ X F N s) (hi : N[i]? = some (it, RevIterO l (j : Int))) (hl : Here F N l (ListO xs)) (hx : xs[j]? = some v)
    (h : ∀ s', At K s₀ X F (N.set i (it, RevIterO l ((j : Int) - 1))) s' → Q (some v) s') : wpAny (model prog w) A (pyNext (.ref it)) Q E s :=
  wpAny_pyNext_rev_item (S.get0 hi) (S.isList hl) (by simpa using hx) fun _ hit hs => h _ (S.set (t := s.toks) hi hs hit)
theorem endRev {it l : Addr} {Q : Option Value → Shared → Prop} (hh : A.handled = none) (S : At K s₀ X F ((it, RevIterO l (-1)) :: N) s) (ha : s₀.heap.objs.size ≤ it) (hN : ∃ p ∈ N, s₀.heap.objs.size ≤ p.1)
    (h : ∀ s', At K s₀ X F N s' → Q none s') : wpAny (model prog w) A (pyNext (.ref it)) Q E s :=
  wpAny_pyNext_rev_end hh (S.get (.head _)) fun _ he => h _ (S.extBut (t := s.toks) ha he hN)

theorem extLoop {it b l : Addr} {ys : List Value} {res : Value} {R : Result → Shared → Prop} (hh : A.handled = none) (ha : s₀.heap.objs.size ≤ it) (hla : s₀.heap.objs.size ≤ l) (hb : Has F b (ListO ys) ∨ (b, ListO ys) ∈ N) :
    ∀ (j : Nat) (xs : List Value) (s : Shared), j ≤ ys.length → xs.length + j ≤ 100000 → At K s₀ X F ((it, RevIterO b ((j : Int) - 1)) :: (l, ListO xs) :: N) s →
    (∀ s', At K s₀ X F ((l, ListO (xs ++ (ys.take j).reverse)) :: N) s' → R (.ok (.ret res)) s') → codeAny (model prog w) A (.builtin "list.extend.loop" ⟨[.ref l, .ref it, res], []⟩) R s := by
  have hh1 : A.in1.handled = none := hh
  have hb' : ∀ (p q : Addr × OP), Here F (p :: q :: N) b (ListO ys) := fun p q => hb.elim .inr fun h => .inl (.tail _ (.tail _ h))
  intro j
  induction j with
  | zero =>
    intro xs s hj hz S h
    refine codeAny_builtin PySem.F.entry_extend_loop ?_
    rw [Around.under_plainId PySem.F.plain_extend_loop _]
    show wpAny _ A.in1 (pyNext (.ref it) >>= _) _ _ s
    refine wpAny_bind (endRev hh1 S ha ⟨_, .head _, hla⟩ fun s' S' => ?_)
    refine wpAny_pure (h s' ?_)
    simpa using S'
  | succ j ih =>
    intro xs s hj hz S h
    refine codeAny_builtin PySem.F.entry_extend_loop ?_
    rw [Around.under_plainId PySem.F.plain_extend_loop _]
    show wpAny _ A.in1 (pyNext (.ref it) >>= _) _ _ s
    have e1 : (((j + 1 : Nat) : Int) - 1) = ((j : Nat) : Int) := by lia
    rw [e1] at S
    refine wpAny_bind (nextRev (i := 0) S rfl (hb' _ _) (List.getElem?_eq_getElem (show j < ys.length by lia)) fun s' S' => ?_)
    rw [List.set_cons_zero] at S'
    obtain ⟨o, e, n, rfl⟩ := S'.get (.tail _ (.head _))
    show wpAny _ A.in1 (updateSeq l (·.push _) >>= _) _ _ _
    refine wpAny_bind ?_
    refine wpAny_updateSeq e rfl (wpAny_pure ⟨plainId_quiet PySem.F.plain_extend_loop _, ih (xs ++ [ys[j]]) _ (by lia) (by simp; lia)
      (S'.set (i := 1) (t := s'.toks) (P' := ListO (xs ++ [ys[j]])) rfl (Heap.SameBut.update ..) ⟨_, Heap.get?_update_self _ e rfl, ?_⟩) fun s'' S'' => h s'' ?_⟩) ?_ ?_
    · refine ⟨if (xs.toArray.push ys[j]).size == xs.toArray.size then n else n + 1, ?_⟩
      unfold Obj.mapSeq
      simp only [List.push_toArray]
    · have e3 : (ys.take (j + 1)).reverse = ys[j] :: (ys.take j).reverse := by rw [List.take_add_one, (List.getElem?_eq_getElem (show j < ys.length by lia))]; simp
      rw [e3]
      rw [List.append_assoc] at S''
      exact S''
    · simp only [List.size_toArray]; exact small_sizeLine (by lia)
    · simp only [List.size_toArray, List.push_toArray]; exact small_sizeLine (by simp; lia) |> fun h => Nat.le_succ_of_le h

theorem extendRev {l it b : Addr} {xs ys : List Value} {Q : Value → Shared → Prop} (hh : A.handled = none) (ha : s₀.heap.objs.size ≤ it) (hla : s₀.heap.objs.size ≤ l) (hb : Has F b (ListO ys) ∨ (b, ListO ys) ∈ N) (hz : xs.length + ys.length ≤ 100000)
    (S : At K s₀ X F ((it, RevIterO b ((ys.length : Int) - 1)) :: (l, ListO xs) :: N) s) (h : ∀ s', At K s₀ X F ((l, ListO (xs ++ ys.reverse)) :: N) s' → Q .none s') :
    wpAny (model prog w) A (call (.builtin "list.extend") [.ref l, .ref it]) Q E s := by
  obtain ⟨oi, ei, ci, di⟩ := S.get (.head _)
  obtain ⟨o, e, n, rfl⟩ := S.get (.tail _ (.head _))
  have hT : s.TypeIs (.ref it) "list_reverseiterator" := ⟨_, ei, ci⟩
  have hne : l ≠ it := fun q => by
    have := S.nodup
    rw [List.map_cons, List.map_cons, List.nodup_cons] at this
    exact this.1 (by rw [← q]; exact .head _)
  refine wpAny_call (codeAny_call_builtin PySem.F.slot_list_extend.plain PySem.F.entry_list_extend (PySem.F.slot_list_extend.check _ _ _ _ _ _ _ _ ⟨_, e, rfl⟩ (PySem.F.args_list_extend_2 _ _) ?_))
  show wpAny _ A.in1 (Builtin.List.listExtendWith (.ref l) (.ref it) .none) _ _ _
  unfold Builtin.List.listExtendWith
  refine wpAny_bind (wpAny_typeOf hT ?_)
  have h1 : Builtin.List.listSameRef (.ref l) (.ref it) = false := by simp [Builtin.List.listSameRef, hne]
  rw [if_neg (by rw [h1]; decide)]
  refine wpAny_bind (wpAny_pyIter_revIter ⟨oi, ei, ci, di⟩ ?_)
  refine wpAny_bind (wpAny_holding ?_)
  unfold Builtin.List.listLengthHint
  refine wpAny_bind (wpAny_specialOf hT nolen_lri ?_)
  show wpAny _ A.in1 (specialOf (Value.ref it) (Str.ofString "__length_hint__") >>= _) _ _ _
  refine wpAny_bind (wpAny_specialOf hT hint_lri ?_)
  (generalize hid : ("list_reverseiterator.__length_hint__" : String) = id0; (fail_if_success (clear hid id0)); wp_delta; rw [show splitId id0 = some ("list_reverseiterator", "__length_hint__") from by subst hid; decide +kernel]; subst hid)
  refine wpAny_bind (wpAny_isInstance (b := true) hT (by rw [isSubtype_type]; kernel_rfl) ?_)
  refine wpAny_pure ?_
  rw [if_neg (by decide)]
  refine wpAny_pure ⟨plainId_quiet PySem.F.plain_extend_loop _, extLoop (s₀ := s₀) (X := X) (F := F) (K := K) hh ha hla hb ys.length xs _ (Nat.le_refl _) hz S fun s' S' => ?_⟩
  rw [List.take_length] at S'
  exact h s' S'
end

-- M8
/-- the attributes of an instance at hand -/
def AttrX (l : List (Str × Value)) : OP := fun o => ∃ es n, o = dictOf es n ∧ es.length ≤ l.length ∧ (∀ e ∈ es, e.refKey = false) ∧ ∀ name, (es.find? (·.key.isStr name)).map (·.val) = l.lookup name
theorem isStr_of {v : Value} {x : Str} (h : v.isStr x = true) : ∃ t, v = .str x t := by
  cases v <;> simp only [Value.isStr, Bool.false_eq_true, beq_iff_eq] at h
  exact ⟨_, by rw [h]⟩
theorem putL_ref (name : Str) (hsh : Int) (t : Tok) (v : Value) : ∀ es : List DictEntry, (∀ e ∈ es, e.refKey = false) → ∀ e ∈ putL name hsh (.str name t) v es, e.refKey = false
  | [], _, e, he => by simp only [putL, List.mem_singleton] at he; subst he; rfl
  | e0 :: r, h, e, he => by
    unfold putL at he
    split at he
    · rcases List.mem_cons.mp he with rfl | he
      · exact h e0 (.head _)
      · exact h e (.tail _ he)
    · rcases List.mem_cons.mp he with rfl | he
      · exact h _ (.head _)
      · exact putL_ref name hsh t v r (fun e he => h e (.tail _ he)) e he
theorem putL_len (name : Str) (hsh : Int) (t : Tok) (v : Value) : ∀ es : List DictEntry, (putL name hsh (.str name t) v es).length ≤ es.length + 1
  | [] => Nat.le_refl _
  | e0 :: r => by
    unfold putL
    split
    · exact Nat.le_succ _
    · have := putL_len name hsh t v r; simp only [List.length_cons]; lia
theorem str_isStr (x y : Str) (t : Tok) : (Value.str x t).isStr y = (x == y) := rfl
theorem putL_find' (name : Str) (hsh : Int) (t : Tok) (v : Value) (y : Str) : ∀ es : List DictEntry, ((putL name hsh (.str name t) v es).find? (·.key.isStr y)).map (·.val) = if y = name then some v else (es.find? (·.key.isStr y)).map (·.val)
  | [] => by
    simp only [putL, List.find?_cons, List.find?_nil, str_isStr]
    by_cases c : y = name
    · subst c; simp
    · rw [if_neg c, beq_eq_false_iff_ne.mpr (Ne.symm c)]
      try rfl
  | e0 :: r => by
    have ih := putL_find' name hsh t v y r
    unfold putL
    by_cases k : e0.key.isStr name = true
    · rw [if_pos k]
      obtain ⟨t', e⟩ := isStr_of k
      simp only [List.find?_cons, e, str_isStr]
      by_cases c : y = name
      · subst c; simp
      · rw [if_neg c, beq_eq_false_iff_ne.mpr (Ne.symm c)]
    · rw [if_neg k]
      simp only [List.find?_cons]
      cases q : e0.key.isStr y with
      | true =>
        have : y ≠ name := fun z => k (z ▸ q)
        rw [if_neg this]
      | false => exact ih
theorem AttrX.getL {l : List (Str × Value)} {es : List DictEntry} (h : ∀ e ∈ es, e.refKey = false) (h2 : ∀ name, (es.find? (·.key.isStr name)).map (·.val) = l.lookup name) (name : Str) : PySem.W.getL name es = some (l.lookup name) := by
  have a : es.any (·.refKey) = false := by
    cases q : es.any (·.refKey) with
    | false => rfl
    | true => obtain ⟨e, he, z⟩ := List.any_eq_true.mp q; rw [h e he] at z; cases z
  have b := h2 name
  unfold PySem.W.getL
  cases q : es.find? (·.key.isStr name) with
  | none => rw [q] at b; simp only [a, Bool.false_eq_true, if_false]; rw [← b]; rfl
  | some e => rw [q] at b; rw [← b]; rfl
theorem AttrX.attrs {l : List (Str × Value)} (hl : l.length ≤ 500) {o : Obj} (h : AttrX l o) : AttrsO l o := by
  obtain ⟨es, n, rfl, hz, hr, hf⟩ := h
  exact ⟨es, n, rfl, by lia, fun name => AttrX.getL hr hf name⟩
theorem AttrX.put {l : List (Str × Value)} {o : Obj} (h : AttrX l o) (name : Str) (hsh : Int) (t : Tok) (v : Value) : AttrX ((name, v) :: l) (Obj.putName name hsh (.str name t) v o) := by
  obtain ⟨es, n, rfl, hz, hr, hf⟩ := h
  rw [putName_dict]
  refine ⟨_, _, rfl, ?_, putL_ref name hsh t v es hr, fun y => ?_⟩
  · have := putL_len name hsh t v es; simp only [List.length_cons]; lia
  · rw [putL_find', List.lookup_cons, hf y]
    by_cases c : y = name
    · subst c; simp
    · rw [if_neg c, beq_eq_false_iff_ne.mpr c]

section
variable {prog : Program} {w : World} {A : Around} {K : Frag} {s₀ s : Shared} {X : List Addr} {F : Fz} {N : Led} {Q : Value → Shared → Prop} {E : Value → Shared → Prop}
theorem At.big0 (S : At K s₀ X F N s) : 3 < s.heap.objs.size := by
  obtain ⟨p, l, mg, mb, T⟩ := S.gl.t
  obtain ⟨o, e, _⟩ := ns_iff.mp T.g
  have := Heap.lt_size e
  rw [show mainGlobals = 3 from rfl] at this
  exact this
theorem osaAt {x dx C : Addr} {l : List (Str × Value)} {i : Nat} {name : Str} {v : Value} {tk : Tok} {R : Result → Shared → Prop} (S : At K s₀ X F N s) (hx : Here F N x (InstO C dx)) (hi : N[i]? = some (dx, AttrX l)) (hl : l.length ≤ 300)
    (hp : plainOver K C = true) (ht : takerIn K C name = some none) (hh : hasDictIn K C = true)
    (h : ∀ s', At K s₀ X F (N.set i (dx, AttrX ((name, v) :: l))) s' → R (.ok (.ret .none)) s') : codeAny (model prog w) A (.call (.builtin "object.__setattr__") ⟨[.ref x, .str name tk, v], []⟩) R s := by
  obtain ⟨_, e1, sl, rfl⟩ := S.here hx
  obtain ⟨_, e2, ax⟩ := S.get0 hi
  have ax' := ax
  obtain ⟨es, n, rfl, hz, hr, hf⟩ := ax'
  have I : InstAt s.heap x ⟨.ref C, some dx, .plain, sl⟩ C (some (dictOf es n)) := ⟨e1, rfl, rfl, e2⟩
  refine osa_open S.kin I hp ht fun b => ?_
  obtain ⟨cd, hc, hd'⟩ := any_some hh
  refine wpAny_bind (wpAny_pure (wpAny_bind (wpAny_bind (wpAny_loadPart e1 (wpAny_bind ((looks_clsIn S.kin hc).here ?_))))))
  rw [hd']
  refine wpAny_pure (a := some dx) (wpAny_bind (wpAny_pure (wpAny_bind ?_)))
  unfold nsSet
  refine wpAny_bind (wpAny_bind (wpAny_askSetting (wpAny_pure (wpAny_bind (wpAny_mkText (wpAny_bind (wpAny_loadPart e2 ?_)))))))
  dsimp only
  have c : aRefKeyMayBeTheName name es.toArray = false := by
    rw [aRefKeyMayBeTheName_at, ← Array.any_toList, ← Array.any_toList]
    have a : es.any (·.refKey) = false := by
      cases q : es.any (·.refKey) with
      | false => rfl
      | true => obtain ⟨e, he, z⟩ := List.any_eq_true.mp q; rw [hr e he] at z; cases z
    show (!es.any (·.key.isStr name) && es.any (·.refKey)) = false
    rw [a, Bool.and_false]
  rw [c]
  refine wpAny_updatePart e2 ?_
  have ap := ax.put name (PyData.keyHash w.params name) s.toks v
  have hfr : (Obj.putName name (PyData.keyHash w.params name) (.str name s.toks) v (dictOf es n)).isFreed = false := by rw [putName_dict]; rfl
  have D' := Heap.get?_update_self (Obj.putName name (PyData.keyHash w.params name) (.str name s.toks) v) e2 hfr
  have ap' := ap
  obtain ⟨es2, n2, e3, hz2, _, _⟩ := ap'
  refine wpAny_bind (wpAny_lookBehind D' (by rw [e3]; exact pastItsLine_dict (by rw [List.size_toArray, sizeLine_eq]; simp only [List.length_cons] at hz2; lia)) ?_)
  exact wpAny_pure (h _ (S.set (t := s.toks + 1) hi (Heap.SameBut.update ..) ⟨_, D', ap⟩))
theorem setA {x dx C : Addr} {l : List (Str × Value)} {i : Nat} {name : Str} {v : Value} {Q : Unit → Shared → Prop} (S : At K s₀ X F N s) (hx : Here F N x (InstO C dx)) (hi : N[i]? = some (dx, AttrX l)) (hl : l.length ≤ 300)
    (hs : findIn K (.ref C) "__setattr__" = some (some (.builtin "object.__setattr__"))) (hp : plainOver K C = true) (ht : takerIn K C name = some none) (hh : hasDictIn K C = true)
    (h : ∀ s', At K s₀ X F (N.set i (dx, AttrX ((name, v) :: l))) s' → Q () s') : wpAny (model prog w) A (setAttr (.ref x) name v) Q E s := by
  obtain ⟨_, e1, sl, rfl⟩ := S.here hx
  obtain ⟨_, e2, es, n, rfl, hz, hr, hf⟩ := S.get0 hi
  exact set_plain (od := some (dictOf es n)) S.kin ⟨e1, rfl, rfl, e2⟩ hs (osaAt (S.toks (s.toks + 1)) hx hi hl hp ht hh h)

/-- as enter, for the code of a call -/
theorem enterCode {name qual : Str} {params : Arguments} {body : List Stmt} {scope : Scope} {dV kV doc pm cdv ct oc : Value} {an od : Option Addr} {osl : Array (Option Value)} {f : Addr} {args : List Value} {binds : List (Str × Value)} {U : Led} {k : Nat} {R : Result → Shared → Prop}
    (S : At K s₀ X F N s) (hm : Rm A (k + 1)) (hU : ∀ p ∈ U, p ∈ N) (hUn : (U.map (·.1)).Nodup)
    (ho : K.lookup f = some ⟨oc, od, .func (fnOf name qual params body scope dV kV doc pm an cdv ct), osl⟩) (hcd : codeIn K cdv qual = true)
    (hbind : BindsTo s (fnOf name qual params body scope dV kV doc pm an cdv ct) ⟨args, []⟩ binds) (hloc : ∀ y ∈ binds, scope.names.lookup y.1 = some .local)
    (hcell : ∀ x ∈ scope.names, x.2 ≠ .cell)
    (h : ∀ L s', s.heap.objs.size ≤ L → At K s (U.map (·.1)) F ((L, NsO fun x => binds.reverse.lookup x) :: U) s' → Rm (A.deeper (envX qual scope L f cdv [])) k →
      wpAny (model prog w) (A.deeper (envX qual scope L f cdv [])) (execs body (envX qual scope L f cdv []))
        (fun fl s'' => R (.ok (.ret (match fl with | .ret v => v | _ => .none))) s'') (fun _ _ => False) s')
    (hco : scope.isCoroutine = false := by rfl) (hgen : scope.isGenerator = false := by rfl) (hk : scope.kind = .function := by rfl) :
    codeAny (model prog w) A (.call (.ref f) ⟨args, []⟩) R s := by
  have G := S.gl
  obtain ⟨p, loose, mg, mb, T⟩ := G.t
  refine codeAny_call_def (fd := fnOf name qual params body scope dV kV doc pm an cdv ct) (body := body) (binds := binds) hm.room (G.k _ _ ho) rfl T.nolimit (codeRec_of G.k hcd) rfl hbind hcell hloc (fun h₁ hns hk₁ => ?_) hco hgen hk
  refine wpAny_mono (h s.heap.objs.size { s with heap := h₁, toks := s.toks + binds.length } (Nat.le_refl _) ?_ (hm.deeper _)) (fun _ _ q => q) (fun _ _ q => q.elim)
  obtain ⟨oL, hL, PL⟩ := ns_iff.mp hns
  refine ⟨?_, ⟨rfl, rfl, rfl⟩, Nat.le_of_lt (Heap.lt_size hL), fun b o e _ => hk₁ b o e, fun b o e => hk₁ b o (S.fz b o e), fun q hq => ?_, ?_⟩
  · exact S.top
  · rcases List.mem_cons.mp hq with rfl | hq
    · exact ⟨⟨oL, hL, PL⟩, S.fresh (Nat.le_refl _), .inl (Nat.le_refl _)⟩
    · obtain ⟨⟨o, e, r⟩, b, _⟩ := S.news q (hU q hq)
      exact ⟨⟨o, hk₁ _ _ e, r⟩, b, .inr (List.mem_map.mpr ⟨q, hq, rfl⟩)⟩
  · rw [List.map_cons, List.nodup_cons]
    refine ⟨fun hx => ?_, hUn⟩
    obtain ⟨q, hq, e⟩ := List.mem_map.mp hx
    have := S.lt (hU q hq)
    rw [e] at this
    exact Nat.lt_irrefl _ this

/-- an instance of one of the text's classes is made; its own __init__ is entered -/
theorem mkInst {name qual : Str} {params : Arguments} {body : List Stmt} {scope : Scope} {dV kV doc pm cdv ct oc : Value} {an od : Option Addr} {osl : Array (Option Value)} {C fI : Addr} {args : List Value} {binds : Addr → List (Str × Value)} {k : Nat}
    (S : At K s₀ X F N s) (hm : Rm A (k + 2)) (hmk : makesIn K C = true) (hi : findIn K (.ref C) "__init__" = some (some (.ref fI))) (hf : isFn K (.ref fI) = true)
    (ho : K.lookup fI = some ⟨oc, od, .func (fnOf name qual params body scope dV kV doc pm an cdv ct), osl⟩) (hcd : codeIn K cdv qual = true)
    (hbind : ∀ x s', K.In s'.heap → BindsTo s' (fnOf name qual params body scope dV kV doc pm an cdv ct) ⟨.ref x :: args, []⟩ (binds x)) (hloc : ∀ x, ∀ y ∈ binds x, scope.names.lookup y.1 = some .local)
    (hcell : ∀ x ∈ scope.names, x.2 ≠ .cell)
    (h : ∀ x dx A' L s₁ s', At K s₀ X F ((x, InstO C dx) :: (dx, AttrX []) :: N) s₁ → s₀.heap.objs.size ≤ dx → s₀.heap.objs.size ≤ x → s₁.heap.objs.size ≤ L → 3 < x → At K s₁ [x, dx] F [(L, NsO fun y => (binds x).reverse.lookup y), (x, InstO C dx), (dx, AttrX [])] s' → Rm A' k →
      wpAny (model prog w) A' (execs body (envX qual scope L fI cdv []))
        (fun fl s'' => (match fl with | .ret v => v | _ => .none) = Value.none ∧ Q (.ref x) s'') (fun _ _ => False) s')
    (hco : scope.isCoroutine = false := by rfl) (hgen : scope.isGenerator = false := by rfl) (hk : scope.kind = .function := by rfl) :
    wpAny (model prog w) A (call (.ref C) args) Q E s := by
  obtain ⟨hh, g, d, t, os⟩ := s
  refine wpAny_call (make_core (makes_of S.kin hmk) (looks_findIn S.kin hi) (fun self => bind_fn S.kin self (beq_iff_eq.mp hf)) (.inl rfl) ?_)
  have hmU : Rm (A.under (.builtin "type.__call__" ⟨.ref C :: args, []⟩)) (k + 1) := by
    have hu : (Code.builtin "type.__call__" ⟨.ref C :: args, []⟩).cUnits ≤ 8 := by
      show (1 : Nat) ≤ 8
      decide
    exact ⟨hm.h, by have := hm.d; show A.depth + 1 + (k + 1) < _; lia, by have := hm.u; show A.units + (Code.builtin "type.__call__" ⟨.ref C :: args, []⟩).cUnits + 8 * (k + 1) + 8 < _; lia⟩
  have S1 := (S.push (t := t) (o := emptyDict) (P := AttrX []) ⟨[], 0, rfl, Nat.le_refl _, (fun _ h => nomatch h), fun _ => rfl⟩ rfl).push (t := t) (o := instObj C hh.objs.size) (P := InstO C hh.objs.size) ⟨_, rfl⟩ rfl
  have hsz : (hh.push emptyDict).objs.size = hh.objs.size + 1 := Heap.size_push ..
  rw [show (({ heap := hh.push emptyDict, gens := g, drawn := d, toks := t, os := os } : Shared).heap.objs.size) = hh.objs.size + 1 from hsz] at S1
  have hbig : 3 < hh.objs.size := S.big0
  refine enterCode (k := k) (U := [(hh.objs.size + 1, InstO C hh.objs.size), (hh.objs.size, AttrX [])]) S1 hmU (fun p hp => ?_) (by simp) ho hcd (hbind _ _ S1.kin) (hloc _) hcell (fun L s' hL S' hm' => ?_) hco hgen hk
  · rcases List.mem_cons.mp hp with rfl | hp
    · exact .head _
    · rw [List.mem_singleton] at hp; subst hp; exact .tail _ (.head _)
  · refine wpAny_mono (h (hh.objs.size + 1) hh.objs.size _ L _ s' S1 S.size (Nat.le_succ_of_le S.size) hL (Nat.lt_succ_of_lt hbig) S' hm') (fun fl s'' q => ?_) fun _ _ f => f
    exact q
end

-- M9
section
variable {prog : Program} {w : World} {A : Around} {K : Frag} {s₀ s : Shared} {X : List Addr} {F : Fz} {N : Led} {E : Value → Shared → Prop} {env : Env}
/-- a for loop with a tuple of targets over a list -/
theorem forTL {elts : List Expr} {kd : Nat} {tp : Pos} {iter : Expr} {body : List Stmt} {pos : Pos} {Q : Flow → Shared → Prop} (hh : A.handled = none) (hL : s₀.heap.objs.size ≤ env.locals)
    (h : wpAny (model prog w) A (eval iter env) (fun xv s₁ => ∃ l xs F m N, ∃ I : Nat → Fz → (Str → Option Value) → Led → Prop,
      xv = .ref l ∧ At K s₀ X F ((env.locals, NsO m) :: N) s₁ ∧ I 0 F m N ∧ (∀ i F m N, I i F m N → Has F l (ListO xs)) ∧
      (∀ i F (m : Str → Option Value) N v it s', xs[i]? = some v → I i F m N → At K s₀ X F ((env.locals, NsO m) :: (it, ListIterO l (i + 1)) :: N) s' →
        wpAny (model prog w) A (assign (.Tuple elts kd tp) env v) (fun _ s'' => wpAny (model prog w) A (execs body env) (fun f s₃ => match f with
          | .next | .cont => ∃ F' m' N', I (i + 1) F' m' N' ∧ At K s₀ X F' ((env.locals, NsO m') :: (it, ListIterO l (i + 1)) :: N') s₃
          | .brk => Q .next s₃
          | .ret v => Q (.ret v) s₃) NoE s'') NoE s') ∧
      (∀ F m N s', I xs.length F m N → At K s₀ X F ((env.locals, NsO m) :: N) s' → Q .next s')) NoE s)
    (hs : ∀ x, foldedSetIterable iter env x = pure x := by intro _; rfl) :
    wpAny (model prog w) A (exec (.For (.Tuple elts kd tp) iter body [] pos) env) Q E s := by
  refine wpAny_For (wpAny_mono (ofNoE h) (fun xv s₁ h₁ => ?_) fun _ _ f => f) hs
  obtain ⟨l, xs, F, m, N, I, rfl, S, h0, hI, turn, done⟩ := h₁
  refine iterL S (.inr (hI _ _ _ _ h0)) fun it s₂ hit S₂ => ?_
  refine codeAny_forLoop_any (fun k s' => ∃ i F m N, i ≤ xs.length ∧ k = xs.length - i ∧ I i F m N ∧ At K s₀ X F ((it, ListIterO l i) :: (env.locals, NsO m) :: N) s') ?_ xs.length ⟨0, F, m, N, Nat.zero_le _, rfl, h0, S₂⟩
  rintro k s' ⟨i, F, m, N, hi, rfl, hIi, S⟩
  by_cases hlt : i < xs.length
  · have hx : xs[i]? = some xs[i] := List.getElem?_eq_getElem hlt
    refine nextL (i := 0) S rfl (.inr (hI _ _ _ _ hIi)) hx fun s₃ S₃ => ?_
    rw [List.set_cons_zero] at S₃
    refine letGo_listiter (S₃.get (.head _)) ?_
    refine wpAny_mono (ofNoE (turn i F m N _ it s₃ hx hIi S₃.swap)) (fun _ s₄ h₄ => wpAny_mono (ofNoE h₄) (fun f s₅ h₅ => ?_) fun _ _ f => f) fun _ _ f => f
    cases f with
    | next => obtain ⟨F', m', N', hI', S'⟩ := h₅; exact ⟨xs.length - (i + 1), by omega, i + 1, F', m', N', hlt, rfl, hI', S'.swap⟩
    | cont => obtain ⟨F', m', N', hI', S'⟩ := h₅; exact ⟨xs.length - (i + 1), by omega, i + 1, F', m', N', hlt, rfl, hI', S'.swap⟩
    | brk => exact h₅
    | ret v => exact h₅
  · have : i = xs.length := by omega
    subst this
    exact endL hh S hit ⟨_, .head _, hL⟩ (.inr (hI _ _ _ _ hIi)) (List.getElem?_eq_none (Nat.le_refl _)) fun s₃ S₃ => wpAny_execs_nil (done F m N s₃ hIi S₃)
def SliceO (l u st : Value) : OP := fun o => o = { cls := .type "slice", dict := none, data := .fields #[l, u, st], slots := #[] }
theorem mkSlice {lower upper step : Option PySem.Expr} {p : Pos} {Q : Value → Shared → Prop}
    (h : wpAny (model prog w) A (evalPart lower env) (fun l s₁ => wpAny (model prog w) A (evalPart upper env) (fun u s₂ => wpAny (model prog w) A (evalPart step env) (fun st s₃ =>
      ∃ F N, At K s₀ X F N s₃ ∧ ∀ a s', s₀.heap.objs.size ≤ a → At K s₀ X F ((a, SliceO l u st) :: N) s' → Q (.ref a) s') E s₂) E s₁) E s) :
    wpAny (model prog w) A (eval (.Slice lower upper step p) env) Q E s := by
  refine wpAny_Slice (wpAny_mono h (fun l s₁ h₁ => wpAny_mono h₁ (fun u s₂ h₂ => wpAny_mono h₂ (fun st s₃ h₃ => ?_) fun _ _ e => e) fun _ _ e => e) fun _ _ e => e)
  obtain ⟨F, N, S, q⟩ := h₃
  exact q _ _ S.size (S.push (t := s₃.toks) rfl rfl)
theorem subSl {value slice : PySem.Expr} {l sl : Addr} {xs : List Value} {vl vu vs : Value} {lo hi st : Option Int} {ops : List Value} {Q : Value → Shared → Prop} (S : At K s₀ X F N s) (hl : Here F N l (ListO xs)) (hsl : Here F N sl (SliceO vl vu vs))
    (pl : IsPart vl lo) (pu : IsPart vu hi) (ps : IsPart vs st) (h0 : st ≠ some 0) (hz : xs.length ≤ 100000)
    (h : ∀ a s', s₀.heap.objs.size ≤ a → At K s₀ X F ((a, ListO (slicePick xs.toArray lo hi st).toList) :: N) s' → Q (.ref a) s')
    (hs : subscripted slice false (.ref l) (.ref sl) = operate ops (getItem (.ref l) (.ref sl))) (ht : ∀ r, letTemporaryGo value (.ref l) r = pure ()) : wpAny (model prog w) A (subscriptTail value slice (.ref l) (.ref sl)) Q E s := by
  obtain ⟨_, e, rfl⟩ := S.here hsl
  refine subscriptTail_ops (S.isList hl).typeIs list_getitem_lookup (wpAny_getItem_list_slice (S.isList hl) ⟨_, e, rfl, rfl⟩ pl pu ps h0 ?_ (by rw [List.size_toArray]; exact small_sizeLine hz)) hs ht
  exact h _ _ S.size (S.push (t := s.toks) ⟨0, by rw [Array.toArray_toList]⟩ rfl)
end

-- M10
section
variable {prog : Program} {w : World} {A : Around} {K : Frag} {s₀ s : Shared} {X : List Addr} {F : Fz} {N : Led} {E : Value → Shared → Prop} {env : Env}
theorem newDictO {T : Type} [DecidableEq T] (knd : KeyKind prog w T) : ({ cls := .type "dict", data := .dict #[] } : Obj).IsDictOf knd [] := ⟨#[], 0, ⟨rfl, rfl, rfl⟩, rfl, fun _ he => by simp at he, Pairs.nil, List.nodup_nil⟩
/-- a dict display with names for keys -/
theorem dictE {keys : List (Option PySem.Expr)} {values : List PySem.Expr} {pos : Pos} {Q : Value → Shared → Prop} (S : At K s₀ X F N s)
    (hall : keys.all (·.isSome) = true) (hl : keys.length = values.length) (h0 : keys ≠ []) (hlen : keys.length ≤ 15)
    (h : ∀ a s₁, s₀.heap.objs.size ≤ a → 3 < a → At K s₀ X F ((a, DictS prog w []) :: N) s₁ → wpAny (model prog w) A (evalPairs (pairTrees keys values env pos)) (fun vs s₂ => ∃ kvs F' N', Carries (strKind prog w) vs kvs ∧ At K s₀ X F' ((a, DictS prog w []) :: N') s₂ ∧
      ∀ s₃, At K s₀ X F' ((a, DictS prog w (merged [] kvs)) :: N') s₃ → Q (.ref a) s₃) E s₁) :
    wpAny (model prog w) A (eval (.Dict keys values pos) env) Q E s := by
  refine wpAny_Dict_walk (knd := strKind prog w) hall hl h0 hlen (wpAny_mono (h s.heap.objs.size _ S.size S.big0 (S.push (t := s.toks) (P := DictS prog w []) (newDictO _) rfl)) (fun vs s₂ q => ?_) fun _ _ e => e)
  obtain ⟨kvs, F', N', hc, S', q⟩ := q
  refine ⟨kvs, hc, S'.dictS (.inl (.head _)), fun h' hd hs => q _ (S'.put (t := s₂.toks + vs.length) hs (Heap.dictOf_iff.mp hd))⟩
theorem setDS {d : Addr} {kvs : List (Str × Value)} {k : Str} {t : Tok} {v : Value} {i : Nat} {Q : Unit → Shared → Prop} (S : At K s₀ X F N s) (hi : N[i]? = some (d, DictS prog w kvs)) (hz : kvs.length ≤ 100000)
    (h : ∀ s', At K s₀ X F (N.set i (d, DictS prog w (stored kvs k v))) s' → Q () s') : wpAny (model prog w) A (setItem (.ref d) (.str k t) v) Q E s := by
  obtain ⟨o, e, p⟩ := S.get0 hi
  exact wpAny_setItem_pairs (strKind_is prog w k t) (Heap.dictOf_iff.mpr ⟨o, e, p⟩) (fun h' hd hs => h _ (S.set (t := s.toks + 1) hi hs (Heap.dictOf_iff.mp hd))) (small_sizeLine hz)
theorem setDI {d : Addr} {kvs : List (Int × Value)} {k : Int} {t : Tok} {v : Value} {i : Nat} {Q : Unit → Shared → Prop} (S : At K s₀ X F N s) (hi : N[i]? = some (d, DictI prog w kvs)) (hz : kvs.length ≤ 100000)
    (h : ∀ s', At K s₀ X F (N.set i (d, DictI prog w (stored kvs k v))) s' → Q () s') : wpAny (model prog w) A (setItem (.ref d) (.int k t) v) Q E s := by
  obtain ⟨o, e, p⟩ := S.get0 hi
  exact wpAny_setItem_pairs (intKind_is prog w k t) (Heap.dictOf_iff.mpr ⟨o, e, p⟩) (fun h' hd hs => h _ (S.set (t := s.toks + 1) hi hs (Heap.dictOf_iff.mp hd))) (small_sizeLine hz)
theorem inDI {d : Addr} {kvs : List (Int × Value)} {k : Int} {t : Tok} {Q : Value → Shared → Prop} (S : At K s₀ X F N s) (hd : Here F N d (DictI prog w kvs)) (hds : (d == sysModules) = false) (h : ∀ s', At K s₀ X F N s' → Q (.bool (valueAt kvs k).isSome) s') :
    wpAny (model prog w) A (compareOp .In (.int k t) (.ref d)) Q E s := wpAny_in_of (intKind_is prog w k t) hds (S.dictI hd).mapOf (h _ (S.toks _))

def KeyIterO (d : Addr) (i n ep : Nat) : OP := fun o => o.cls = .type "dict_keyiterator" ∧ o.data = .fields #[.ref d, .int i 0, .int n 0, .int ep 0]
def DictSE (prog : Program) (w : World) (kvs : List (Str × Value)) (ep : Nat) : OP := fun o => ∃ es, o.ExactDict ∧ o.data = .dict es ep ∧ KeysOf (strKind prog w) es ∧ Pairs (strKind prog w) es.toList kvs ∧ (kvs.map (·.1)).Nodup
theorem hasE {d : Addr} {kvs : List (Str × Value)} (h : Has F d (DictS prog w kvs)) : ∃ ep, Has F d (DictSE prog w kvs ep) := let ⟨o, e, es, ep, r⟩ := h; ⟨ep, o, e, es, r⟩
theorem At.dictAt {d : Addr} {kvs : List (Str × Value)} {ep : Nat} (S : At K s₀ X F N s) (h : Has F d (DictSE prog w kvs ep)) : s.heap.DictAt (strKind prog w) d kvs ep := let ⟨o, e, es, r⟩ := h; ⟨o, es, S.fz _ _ e, r⟩
theorem iterD {d : Addr} {kvs : List (Str × Value)} {ep : Nat} {Q : Value → Shared → Prop} (S : At K s₀ X F N s) (hl : Has F d (DictSE prog w kvs ep)) (hds : (d == sysModules) = false)
    (h : ∀ it s', s₀.heap.objs.size ≤ it → At K s₀ X F ((it, KeyIterO d 0 kvs.length ep) :: N) s' → Q (.ref it) s') : wpAny (model prog w) A (pyIter (.ref d)) Q E s :=
  wpAny_pyIter_dict hds (S.dictAt hl) (h _ _ S.size (S.push (t := s.toks) ⟨rfl, rfl⟩ rfl))
theorem srcD {it d : Addr} {kvs : List (Str × Value)} {ep : Nat} (hh : A.handled = none) (ha : s₀.heap.objs.size ≤ it) :
    Src prog w A K s₀ X it (fun i => KeyIterO d i kvs.length ep) kvs.length (fun i v => ∃ k y, kvs[i]? = some (k, y) ∧ (strKind prog w).is k v = true) (fun F _ => Has F d (DictSE prog w kvs ep)) where
  self := fun S hm q => wpAny_pyIter_keyiter (S.get hm) q
  item := fun {F N s i k Q E} hi S hk hD h => by
    have hv : kvs[i]? = some (kvs[i].1, kvs[i].2) := List.getElem?_eq_getElem hi
    exact wpAny_pyNext_dict_item (S.get0 hk) (S.dictAt hD) hv fun key h' hkey hit hs => h key _ ⟨_, _, hv, hkey⟩ (S.set (t := s.toks) hk hs hit)
  done := fun {F N s Q E} S hN hD h => wpAny_pyNext_dict_end hh (S.get (.head _)) (S.dictAt hD) (List.getElem?_eq_none (Nat.le_refl _)) fun h' he => h _ (S.extBut (t := s.toks) ha he hN)

/-- a dict comprehension with names for keys, the ledger kept -/
theorem dcompE0 {kx vx iter : PySem.Expr} {x : Str} {px : Pos} {ifs : List PySem.Expr} {scope : Scope} {cl : List (Str × Addr)} {pos : Pos} {Q : Value → Shared → Prop}
    (hclos : closureFor scope env = pure cl) (hcell : ∀ y ∈ scope.names, y.2 ≠ .cell) (hkind : scope.kind = .function) (hnames : ∀ y ∈ scope.names, y.2 = .local → scope.names.lookup y.1 = some .local) (hx : scope.names.lookup x = some .local)
    (h : wpAny (model prog w) A (eval iter env) (fun xv s₁ => wpAny (model prog w) A (pyIter xv) (fun itv s₂ => ∃ it PI n val D F N, ∃ I : Nat → List (Str × Value) → Prop,
      itv = .ref it ∧ Src prog w A K s₀ X it PI n val D ∧ n ≤ 100000 ∧ At K s₀ X F ((it, PI 0) :: N) s₂ ∧ I 0 [] ∧ (∀ N', (∀ p ∈ N, p ∈ N') → D F N') ∧
      (∀ i ys v (mc : Str → Option Value) (C acc : Addr) s', i < n → val i v → I i ys → At K s₀ X F ((C, NsO fun y => if y = x then some v else mc y) :: (it, PI (i + 1)) :: (acc, DictS prog w ys) :: N) s' →
        wpAny (model prog w) A (forIn ifs true fun c r => if r = true then do let ok ← isTrue c (compEnvC scope cl C env) (eval c (compEnvC scope cl C env)); pure (ForInStep.yield ok) else pure (ForInStep.yield r)) (fun ok s₃ =>
          if ok = true then wpAny (model prog w) A (eval kx (compEnvC scope cl C env)) (fun kv s₄ => wpAny (model prog w) A (eval vx (compEnvC scope cl C env)) (fun vv s₅ =>
            ∃ mc' k t, kv = .str k t ∧ ys.length ≤ i ∧ I (i + 1) (stored ys k vv) ∧ At K s₀ X F ((C, NsO mc') :: (it, PI (i + 1)) :: (acc, DictS prog w ys) :: N) s₅) NoE s₄) NoE s₃
          else ∃ mc', I (i + 1) ys ∧ At K s₀ X F ((C, NsO mc') :: (it, PI (i + 1)) :: (acc, DictS prog w ys) :: N) s₃) NoE s') ∧
      (∀ ys (acc : Addr) s', I n ys → s₀.heap.objs.size ≤ acc → 3 < acc → At K s₀ X F ((acc, DictS prog w ys) :: N) s' → Q (.ref acc) s')) NoE s₁) NoE s)
    (hs : ∀ x, foldedSetIterable iter env x = pure x := by intro _; rfl) :
    wpAny (model prog w) A (eval (.DictComp kx vx [⟨.Name x px, iter, ifs, 0⟩] scope pos) env) Q E s := by
  rw [arm_eval_DictComp]
  refine ofNoE (wpAny_comprehension_free (use := none) rfl hs hclos hkind hnames (wpAny_mono h (fun xv s₁ h₁ => wpAny_mono h₁ (fun itv s₂ h₂ => ?_) fun _ _ e => e) fun _ _ e => e))
  obtain ⟨it, PI, n, val, D, F, N, I, rfl, W, hn, S, h0, hD, turn, done⟩ := h₂
  refine wpAny_newObj_type ?_ (by size_fits)
  have S1 : At K s₀ X F ((s₂.heap.objs.size, DictS prog w []) :: (it, PI 0) :: N) { s₂ with heap := s₂.heap.push { cls := .type "dict", data := .dict #[] }, toks := s₂.toks } := S.push (newDictO _) rfl
  refine newC S1 hcell hkind fun C s₄ hC S4 => ?_
  have S5 : At K s₀ X F ((it, PI 0) :: (C, NsO fun _ => none) :: (s₂.heap.objs.size, DictS prog w []) :: N) s₄ := S4.rot.rot
  have hsz0 := S.size
  have hbig0 := S.big0
  have hkx : (compEnvC scope cl C env).kindOf x = some .local := lookup_relabel_local hx
  have loop : codeAny (model prog w) A (.compLoop (.DictComp kx vx [⟨.Name x px, iter, ifs, 0⟩] scope pos) 0 (.ref it) (.ref s₂.heap.objs.size) (compEnvC scope cl C env)) (compPost (model prog w) A NoE none Q (.ref s₂.heap.objs.size) C) s₄ := by
    refine codeAny_compLoop_testsD (fun k s' => ∃ i ys mc, i ≤ n ∧ k = n - i ∧ ys.length ≤ i ∧ I i ys ∧ At K s₀ X F ((it, PI i) :: (C, NsO mc) :: (s₂.heap.objs.size, DictS prog w ys) :: N) s') ?_ n ⟨0, [], fun _ => none, Nat.zero_le _, rfl, Nat.le_refl _, h0, S5⟩
    rintro k s' ⟨i, ys, mc, hi, rfl, hys, hI, S⟩
    by_cases hlt : i < n
    · refine W.item (k := 0) hlt S rfl (hD _ fun p hp => .tail _ (.tail _ (.tail _ hp))) fun v s₁ hv S₁ => ?_
      refine wpAny_assign_Name (stL (env := compEnvC scope cl C env) S₁.swap (fun s₂ S₂ => ?_) hkind hkx)
      refine wpAny_mono (turn i ys v mc C _ s₂ hlt hv hI S₂) (fun ok s₃ h₃ => ?_) fun _ _ f => f.elim
      cases ok with
      | false =>
        simp only [Bool.false_eq_true, if_false] at h₃ ⊢
        obtain ⟨mc', hI', S'⟩ := h₃
        exact ⟨n - (i + 1), by lia, i + 1, ys, mc', hlt, rfl, by lia, hI', S'.swap⟩
      | true =>
        simp only [if_true] at h₃ ⊢
        refine wpAny_mono h₃ (fun kv s₄ h₄ => wpAny_mono h₄ (fun vv s₅ h₅ => ?_) fun _ _ f => f.elim) fun _ _ f => f.elim
        obtain ⟨mc', kk, t, rfl, hyl, hI', S'⟩ := h₅
        obtain ⟨o, e, p⟩ := S'.get (.tail _ (.tail _ (.head _)))
        refine wpAny_dictSet_pairs (strKind_is prog w kk t) (Heap.dictOf_iff.mpr ⟨o, e, p⟩) (fun h' hd hs => ?_) (small_sizeLine (by lia))
        have S6 := S'.set (i := 2) (t := s₅.toks + 1) (P' := DictS prog w (stored ys kk vv)) rfl hs (Heap.dictOf_iff.mp hd)
        have := stored_length_le ys kk vv
        exact ⟨n - (i + 1), by lia, i + 1, _, mc', hlt, rfl, by lia, hI', S6.swap⟩
    · have : i = n := by lia
      subst this
      refine W.done S ⟨_, .tail _ (.head _), hsz0⟩ (hD _ fun p hp => .tail _ (.tail _ (.tail _ hp))) fun s₁ S₁ => ?_
      obtain ⟨o, e, p⟩ := S₁.get (.head _)
      exact ⟨mc, ns_iff.mpr ⟨o, e, p⟩, fun h' hsb => done ys _ _ hI hsz0 hbig0 (S₁.forget (t := s₁.toks) hC hsb)⟩
  exact codeAny_compStart_dict loop (W.self S5 (.head _) loop)
theorem copyDS {d : Addr} {kvs : List (Str × Value)} {Q : Value → Shared → Prop} (S : At K s₀ X F N s) (hd : Here F N d (DictS prog w kvs)) (hds : (d == sysModules) = false) (hz : kvs.length ≤ 100000)
    (h : ∀ a s', s₀.heap.objs.size ≤ a → 3 < a → At K s₀ X F ((a, DictS prog w kvs) :: N) s' → Q (.ref a) s') : wpAny (model prog w) A (call (.type "dict") [.ref d]) Q E s :=
  kt_call_dict hds (S.dictS hd) (small_sizeLine hz) fun h' hd' hs => h _ _ S.size S.big0
    (At.put (s := { s with heap := s.heap.push { cls := .type "dict", data := .dict #[] }, toks := s.toks }) (t := s.toks) (S.push (t := s.toks) (o := { cls := .type "dict", data := .dict #[] }) (P := fun _ => True) trivial rfl) hs (Heap.dictOf_iff.mp hd'))
end

set_option compiler.extract_closed false
local macro_rules | `(tactic| cell_call) => do
  let ids := #[``itT, ``itF, ``itNF, ``itNT, ``wpAny_execs_cons, ``wpAny_execs_nil, ``wpAny_If, ``wpAny_Return_some, ``wpAny_Return_none, ``isTrue_and, ``isTrue_and_nil, ``isTrue_or, ``isTrue_or_nil, ``isTrue_not, ``isTrue_IfExp, ``IfExp_, ``UnaryOp_, ``not_of, ``wpAny_BinOp, ``wpAny_truthy_bool, ``truthy_none, ``Constant_none, ``Constant_bool].map Lean.mkIdent
  let is : Array (Lean.TSyntax `term) := #[1, 2, 3, 4, 5].map fun n => ⟨Lean.Syntax.mkNumLit (toString (n : Nat))⟩
  let a ← `(tactic| first $[| with_reducible refine $ids:ident ?_]*)
  let st ← `(tactic| first $[| (refine' stC (i := $is) ?S ?c ?i ?_ ?a ?b; (case b => exact rfl); (case S => assumption); (case c => exact rfl); (case i => exact rfl); (case a => exact rfl); (intro _ S9; simp only [List.set_cons_zero, List.set_cons_succ] at S9))]*)
  `(tactic| ((first
  | with_reducible refine execs_consQ (by assumption) fun _ _ => ?_
  | with_reducible refine Cut.n (by assumption) ?_
  | with_reducible refine Cut.r (by assumption) ?_
  | with_reducible refine Cut.b (by assumption) ?_
  | with_reducible refine Cut.c (by assumption) ?_
  | $a:tactic
  | ((with_reducible show wpAny _ _ (eval (Expr.Name _ _) _) _ _ _); first
      | refine' nmL (i := 0) ?S ?i ?v ?_ ?a ?b ?c; (case b => exact rfl); (case S => assumption); (case i => exact rfl); (case v => first | exact rfl | ((try dsimp only); (repeat (first | rw [if_pos rfl] | rw [if_neg (by decide)])); first | assumption | exact rfl)); (case a => exact rfl); (case c => decide)
      | refine' nmC ?S ?i ?v ?_ ?a ?b ?c; (case b => exact rfl); (case S => assumption); (case i => exact rfl); (case v => first | assumption | exact .inl (by ((repeat (first | exact List.Mem.head _ | refine List.Mem.tail _ ?_))))); (case a => exact rfl); (case c => decide)
      | refine' nmG ?S ?e ?_ ?g ?a ?b ?c; (case S => assumption); (case e => k_is); (case g => exact rfl); (case a => exact rfl); (case b => exact rfl); (case c => decide)
      | refine' nmB ?S ?e ?v ?_ ?g ?hb ?n ?a ?b ?c; (case S => assumption); (case e => k_is); (case v => first | with_reducible exact Boot.isinstance | with_reducible exact Boot.len | with_reducible exact Boot.range | with_reducible exact Boot.int | with_reducible exact Boot.bool | with_reducible exact Boot.dict | with_reducible exact Boot.list | with_reducible exact Boot.sorted | with_reducible exact Boot.reversed | with_reducible exact Boot.set | with_reducible exact Boot.abs | with_reducible exact Boot.bytes); (case g => exact rfl); (case hb => exact rfl); (case n => decide); (case a => exact rfl); (case b => exact rfl); (case c => decide))
  | ((with_reducible show wpAny _ _ (eval (Expr.Constant (Const.str _) _ _) _) _ _ _); (refine' cStr ?S ?_; (case S => assumption)); intro _ _ _)
  | ((with_reducible show wpAny _ _ (eval (Expr.Constant (Const.int _) _ _) _) _ _ _); (refine' cInt ?S ?_; (case S => assumption)); intro _ _ _)
  | ((with_reducible show wpAny _ _ (isTrue (Expr.Compare _ [_] [_] _) _ _) _ _ _); refine wpAny_isTrue_Compare1 ?_)
  | ((with_reducible show wpAny _ _ (isTrue (Expr.Compare _ (_ :: _ :: _) _ _) _ _) _ _ _); refine isTrue_chain ?_)
  | ((with_reducible show wpAny _ _ (eval (Expr.Compare _ [_] [_] _) _) _ _ _); refine wpAny_Compare1 ?_)
  | ((with_reducible show wpAny _ _ (eval (Expr.Call (Expr.Name _ _) _ [] _) _) _ _ _); refine Call_ ?_)
  | ((with_reducible show wpAny _ _ (eval (Expr.Call (Expr.Attribute _ _ _) _ [] _) _) _ _ _); refine MethodCall_ ?_)
  | ((with_reducible show wpAny _ _ (eval (Expr.Subscript _ _ _) _) _ _ _); refine Subscript_ ?_)
  | ((with_reducible show wpAny _ _ (eval (Expr.Attribute (Expr.Name _ _) _ _) _) _ _ _); refine Attribute_Name_ ?_)
  | ((with_reducible show wpAny _ _ (eval (Expr.Tuple _ _ _) _) _ _ _); refine Tuple_ ?_)
  | ((with_reducible show wpAny _ _ (eval (Expr.List _ _) _) _ _ _); refine List_ ?_)
  | ((with_reducible show wpAny _ _ (spliced (backTo _ (starEach (_ :: _) _))) _ _ _); refine args_cons ?_)
  | ((with_reducible show wpAny _ _ (spliced (backTo _ (starEach [] _))) _ _ _); refine args_nil ?_)
  | ((with_reducible show wpAny _ _ (exec (Stmt.Assign [Expr.Name _ _] _ _) _) _ _ _); refine wpAny_Assign_Name ?_)
  | ((with_reducible show wpAny _ _ (exec (Stmt.Assign [Expr.Subscript _ _ _] _ _) _) _ _ _); refine wpAny_Assign_Subscript ?_)
  | ((with_reducible show wpAny _ _ (exec (Stmt.Expr _ _) _) _ _ _); refine wpAny_Expr_any ?_)
  | ((with_reducible show wpAny _ _ (storeName _ _ _) _ _ _); first
      | (refine' stL ?S ?_ ?a ?b; (case S => assumption); (case a => exact rfl); (case b => exact rfl); intro _ _)
      | $st:tactic)
  | ((with_reducible show wpAny _ _ (isTrue _ _ _) _ _ _); refine isTrue_plain ?_)
  | ((with_reducible show wpAny _ _ (callWith _ (Value.builtin _) [] (backTo _ (starEach (_ :: _) _)) []) _ _ _); refine PyProof.Rows.callWith_builtin1 ?_)
  | ((with_reducible show wpAny _ _ (callWith _ (Value.builtin _) _ (backTo _ (starEach [] _)) []) _ _ _); refine PyProof.Rows.callWith_method0 ?_)
  | ((with_reducible show wpAny _ _ (callWith _ (Value.builtin _) _ (backTo _ (starEach (_ :: _) _)) []) _ _ _); refine PyProof.Rows.callWith_method1 ?_)
  | ((with_reducible show wpAny _ _ (callWith _ (Value.type _) [] (backTo _ (starEach (_ :: _) _)) []) _ _ _); refine PyProof.Rows.callWith_type1 ?_)
  | ((with_reducible show wpAny _ _ (callWith _ (Value.ref _) _ (backTo _ (starEach (_ :: _) _)) []) _ _ _); (refine' callWith_K (At.kin ?S) ?k ?_; (case S => assumption); (case k => k_is)))
  | ((with_reducible show wpAny _ _ (callWith _ (Value.ref _) _ (backTo _ (starEach [] _)) []) _ _ _); (refine' callWith_K0 (At.kin ?S) ?k ?_; (case S => assumption); (case k => k_is)))
  | ((with_reducible show Frag.In _ _ ∧ _); refine ⟨At.kin (by assumption), ?_⟩)); (try dsimp only [List.nil_append, List.cons_append])))

noncomputable section
-- C1
/-- a raw key: its rank r; true: Nums -/
def bsOf (r : Nat) : Array UInt8 := if r % 3 = 0 then #[UInt8.ofNat (97 + r / 21), UInt8.ofNat (97 + r / 3 % 7)] else #[UInt8.ofNat (97 + r / 21), UInt8.ofNat (97 + r / 3 % 7), 48]
def RawK : Bool → Int → Value → Prop
  | true, r, v => ∃ t, v = .int r t
  | false, r, v => ∃ t, v = .bytes (bsOf r.toNat) t ∧ 0 ≤ r ∧ r < 62 ∧ r % 3 ≠ 2
def wordS (b : Bool) : Str := if b then Str.ofString "Nums" else Str.ofString "Names"
def WordV (b : Bool) (v : Value) : Prop := ∃ t, v = .str (wordS b) t
/-- the key object v of the raw key k -/
def KeyO (F : Fz) : Bool → Value → Value → Prop
  | true, v, k => v = k
  | false, v, k => ∃ x, v = .ref x ∧ InstF F x 205 [(Str.ofString "is_hex", .bool false), (Str.ofString "octets", k)]
section
variable {prog : Program} {w : World} {A : Around} {P : Params} {s₀ s : Shared} {X : List Addr} {F : Fz} {N : Led} {Q : Value → Shared → Prop} {E : Value → Shared → Prop}

theorem isInstC {x C D : Addr} {l : List (Str × Value)} {K : Frag} (S : At K s₀ X F N s) (I : Inst F N x C l) (e : isIn K (.ref C) D = true) (h : Q (.bool true) s) : wpAny (model prog w) A (call (.builtin "isinstance") [.ref x, .ref D]) Q E s := by
  obtain ⟨dx, sl, es, n, I, _, _⟩ := inst_at S I
  exact isi_call S.kin (fun _ => I.type) e (by intro h; cases h) h

theorem isIntInt {i : Int} {t : Tok} {K : Frag} (S : At K s₀ X F N s) (h : ∀ s', At K s₀ X F N s' → Q (.bool true) s') : wpAny (model prog w) A (call (.builtin "isinstance") [.int i t, .type "int"]) Q E s :=
  call_isinstance (isinstance_true (Tx := "int") (T := "int") rfl (by rw [isSubtype_type]; kernel_rfl)) ⟨rfl, h _ S⟩
theorem isIntBool {i : Int} {t : Tok} {K : Frag} (S : At K s₀ X F N s) (h : ∀ s', At K s₀ X F N s' → Q (.bool false) s') : wpAny (model prog w) A (call (.builtin "isinstance") [.int i t, .type "bool"]) Q E s :=
  call_isinstance (isinstance_false_int (T := "bool") rfl rfl (by rw [isSubtype_type]; kernel_rfl)) (h _ (S.toks _))

set_option maxHeartbeats 1000000 in
theorem key_of_ {b : Bool} {r : Int} {wd v k : Value} (S : At (hd.heap_1 P) s₀ X F N s) (hm : Rm A 1) (hw : WordV b wd) (hk : RawK b r k) (hv : KeyO F b v k) (h : ∀ s', At (hd.heap_1 P) s₀ X F N s' → Q k s') :
    wpAny (model prog w) A (call (.ref 379) [wd, v]) Q E s := by
  obtain ⟨t, rfl⟩ := hw
  ((refine' enter (U := []) (binds := [(Str.ofString "word", Value.str (wordS b) t), (Str.ofString "value", v)]) ?Sq1 ?hmq1 ?hUq1 ?hUnq1 ?k1q1 ?k2q1 ?k3q1 ?k4q1 ?k5q1 ?bodyq1 ?k6q1 ?k7q1 ?k8q1; (case Sq1 => assumption); (case hmq1 => assumption); (case hUq1 => exact fun _ h => nomatch h); (case hUnq1 => exact List.nodup_nil); (case k1q1 => k_is); (case k2q1 => k_is); (case k3q1 => exact BindsTo.of_eq rfl); (case k4q1 => exact locs rfl); (case k5q1 => decide); (case k6q1 => exact rfl); (case k7q1 => exact rfl); (case k8q1 => exact rfl)))
  intro L s' hL S' hm'
  (repeat cell_call)
  refine eq_str ?_
  cases b with
  | false =>
    obtain ⟨x, rfl, I⟩ := hv
    rw [show (wordS false == Str.ofString "Names") = true from by decide +kernel]
    (repeat cell_call)
    refine isInstC (by assumption) I.inst (by k_is) ?_
    (repeat cell_call)
    refine atGet (by assumption) I.inst rfl (by k_is) (by k_is) (by k_is) ?_ ?_
    · obtain ⟨t, rfl, _⟩ := hk; rfl
    · intro s₂ S₂; exact h _ (S.ret0 S₂)
  | true =>
    obtain rfl : v = k := hv
    obtain ⟨u, rfl⟩ := hk
    rw [show (wordS true == Str.ofString "Names") = false from by decide +kernel]
    (repeat cell_call)
    refine eq_str ?_
    rw [show (wordS true == Str.ofString "Nums") = true from by decide +kernel]
    (repeat cell_call)
    refine isIntInt (by assumption) ?_
    intro _ _
    (repeat cell_call)
    refine isIntBool (by assumption) ?_
    intro _ _
    (repeat cell_call)
    exact h _ (S.ret0 (by assumption))
end
section
variable {prog : Program} {w : World} {A : Around} {P : Params} {s₀ s : Shared} {X : List Addr} {F : Fz} {N : Led} {Q : Value → Shared → Prop} {E : Value → Shared → Prop} {K : Frag}
/-- not an instance of Reference -/
def NotRef (F : Fz) (v : Value) : Prop := (∃ i t, v = .int i t) ∨ (∃ x l, v = .ref x ∧ InstF F x 205 l) ∨ (∃ d c, v = .ref d ∧ (c = "dict" ∨ c = "list") ∧ Has F d fun o => o.cls = .type c)
theorem NotRef.mono {F F' : Fz} {v : Value} (h : NotRef F v) (l : F.le F') : NotRef F' v := by
  rcases h with h | ⟨x, m, e, i⟩ | ⟨d, c, e, hc, i⟩
  · exact .inl h
  · exact .inr (.inl ⟨x, m, e, i.mono l⟩)
  · exact .inr (.inr ⟨d, c, e, hc, i.mono l⟩)
set_option maxHeartbeats 1000000 in
theorem isRefNot {v : Value} (S : At (hd.heap_1 P) s₀ X F N s) (h : NotRef F v) (q : ∀ s', At (hd.heap_1 P) s₀ X F N s' → Q (.bool false) s') : wpAny (model prog w) A (call (.builtin "isinstance") [v, .ref 254]) Q E s := by
  rcases h with ⟨i, t, rfl⟩ | ⟨x, l, rfl, I⟩ | ⟨d, c, rfl, hc', o, e, hc⟩
  · exact isn_call (K := hd.heap_1 P) (P := fun _ => True) S.kin (fun _ => Looks.of_pure rfl) (by k_not) (fun e => by cases e) trivial int_cls (q _ (S.toks _))
  · obtain ⟨dx, sl, es, n, I, _, _⟩ := inst_at S I.inst
    exact kin_callC S.kin I (by kin_no) (by k_is) (by k_is) (by k_is) (by k_is) (by k_is) (by k_is) (q _ (S.toks _))
  · have e' := S.fz _ _ e
    rcases hc' with rfl | rfl
    · exact isn_call (K := hd.heap_1 P) (T := "dict") (P := fun h => ∃ o, h.get? d = some o ∧ o.cls = .type "dict") S.kin (fun _ => hc ▸ (Looks.ld (part := none) e').andThen .now) (by k_not) (fun e => by cases e) ⟨o, e', hc⟩ dict_cls (q _ (S.toks _))
    · exact isn_call (K := hd.heap_1 P) (T := "list") (P := fun h => ∃ o, h.get? d = some o ∧ o.cls = .type "list") S.kin (fun _ => hc ▸ (Looks.ld (part := none) e').andThen .now) (by k_not) (fun e => by cases e) ⟨o, e', hc⟩ list_cls (q _ (S.toks _))
def RefF (F : Fz) (v : Value) (k : Int) : Prop := ∃ r t u, v = .ref r ∧ InstF F r 254 [(Str.ofString "generation", .int 0 t), (Str.ofString "number", .int k u)]
theorem RefF.mono {F F' : Fz} {v : Value} {k : Int} (h : RefF F v k) (l : F.le F') : RefF F' v k := let ⟨r, t, u, e, i⟩ := h; ⟨r, t, u, e, i.mono l⟩
end

-- C2
section
variable {prog : Program} {w : World} {A : Around} {P : Params} {s₀ s : Shared} {X : List Addr} {F : Fz} {N : Led} {Q : Value → Shared → Prop} {E : Value → Shared → Prop} {K : Frag}
set_option maxHeartbeats 1000000 in
theorem fetch_val {shelf : Addr} {v : Value} (S : At (hd.heap_1 P) s₀ X F N s) (hm : Rm A 1) (hv : NotRef F v) (h : ∀ s', At (hd.heap_1 P) s₀ X F N s' → Q v s') :
    wpAny (model prog w) A (call (.ref 299) [.ref shelf, v]) Q E s := by
  ((refine' enter (U := []) (binds := [(Str.ofString "self", Value.ref shelf), (Str.ofString "value", v)]) ?Sq9 ?hmq9 ?hUq9 ?hUnq9 ?k1q9 ?k2q9 ?k3q9 ?k4q9 ?k5q9 ?bodyq9 ?k6q9 ?k7q9 ?k8q9; (case Sq9 => assumption); (case hmq9 => assumption); (case hUq9 => exact fun _ h => nomatch h); (case hUnq9 => exact List.nodup_nil); (case k1q9 => k_is); (case k2q9 => k_is); (case k3q9 => exact BindsTo.of_eq rfl); (case k4q9 => exact locs rfl); (case k5q9 => decide); (case k6q9 => exact rfl); (case k7q9 => exact rfl); (case k8q9 => exact rfl)))
  intro L s' hL S' hm'
  (repeat cell_call)
  refine forI (K := hd.heap_1 P) (X := []) (s₀ := s) (by exact rfl) (by exact rfl) hL ?_
  (repeat cell_call)
  refine range1 (by assumption) fun r s₁ S₁ => ?_
  refine iterRange (n := 30) S₁ (.inl (.head _)) (by decide) (by decide) (by decide) (by decide) (by decide) fun it s₂ hit S₂ => ?_
  refine ⟨it, _, 30, _, _, F, _, [], fun i F' m N' => F' = F ∧ N' = [] ∧ i = 0 ∧ m (Str.ofString "here") = some v, rfl, srcR hm'.h hit, S₂.eraseIdx 1, ⟨rfl, rfl, rfl, rfl⟩, fun _ _ _ _ _ _ _ => trivial, ?_, ?_⟩
  · rintro i F' m N' u s₃ hi hu ⟨rfl, rfl, rfl, hh⟩ S₃
    (repeat cell_call)
    refine isRefNot (by assumption) hv fun s₄ S₄ => ?_
    (repeat cell_call)
    exact h _ (S.ret0 (by assumption))
  · rintro F' m N' s₃ ⟨_, _, h0, _⟩ _
    cases h0
end
section
variable {prog : Program} {w : World} {A : Around} {P : Params} {s₀ s : Shared} {X : List Addr} {F : Fz} {N : Led} {Q : Value → Shared → Prop} {E : Value → Shared → Prop} {K : Frag}
theorem At.big (S : At K s₀ X F N s) : 3 < s.heap.objs.size := by
  obtain ⟨p, l, mg, mb, T⟩ := S.gl.t
  obtain ⟨o, e, _⟩ := ns_iff.mp T.g
  have := Heap.lt_size e
  rw [show mainGlobals = 3 from rfl] at this
  exact this
theorem nosys {d : Addr} (h : 3 < d) : (d == sysModules) = false := beq_eq_false_iff_ne.mpr fun e => by rw [e] at h; exact absurd h (by decide)
/-- the shelf -/
structure ShF (prog : Program) (w : World) (F : Fz) (sh T : Addr) (tb : List (Int × Value)) : Prop where
  i : ∃ tr, InstF F sh 363 [(Str.ofString "table", .ref T), (Str.ofString "trailer", .ref tr)]
  t : Has F T (DictI prog w tb)
  n : 3 < T
theorem ShF.mono {F F' : Fz} {sh T : Addr} {tb : List (Int × Value)} (h : ShF prog w F sh T tb) (l : F.le F') : ShF prog w F' sh T tb := ⟨let ⟨tr, i⟩ := h.i; ⟨tr, i.mono l⟩, h.t.mono l, h.n⟩
set_option maxHeartbeats 1000000 in
theorem fetch_ref {sh T e : Addr} {tb : List (Int × Value)} {v f : Value} {k : Int} (S : At (hd.heap_1 P) s₀ X F N s) (hm : Rm A 1) (hs : ShF prog w F sh T tb) (hv : RefF F v k) (ht : valueAt tb k = some (.ref e)) (he : ∃ t, Has F e (TupO [.int 0 t, f])) (hf : NotRef F f)
    (h : ∀ s', At (hd.heap_1 P) s₀ X F N s' → Q f s') : wpAny (model prog w) A (call (.ref 299) [.ref sh, v]) Q E s := by
  obtain ⟨tr, hsi⟩ := hs.i
  obtain ⟨r, t1, t2, rfl, hr⟩ := hv
  obtain ⟨t3, he⟩ := he
  ((refine' enter (U := []) (binds := [(Str.ofString "self", Value.ref sh), (Str.ofString "value", Value.ref r)]) ?Sq14 ?hmq14 ?hUq14 ?hUnq14 ?k1q14 ?k2q14 ?k3q14 ?k4q14 ?k5q14 ?bodyq14 ?k6q14 ?k7q14 ?k8q14; (case Sq14 => assumption); (case hmq14 => assumption); (case hUq14 => exact fun _ h => nomatch h); (case hUnq14 => exact List.nodup_nil); (case k1q14 => k_is); (case k2q14 => k_is); (case k3q14 => exact BindsTo.of_eq rfl); (case k4q14 => exact locs rfl); (case k5q14 => decide); (case k6q14 => exact rfl); (case k7q14 => exact rfl); (case k8q14 => exact rfl)))
  intro L s' hL S' hm'
  (repeat cell_call)
  refine forI (K := hd.heap_1 P) (X := []) (s₀ := s) (by exact rfl) (by exact rfl) hL ?_
  (repeat cell_call)
  refine range1 (by assumption) fun rr s₁ S₁ => ?_
  refine iterRange (n := 30) S₁ (.inl (.head _)) (by decide) (by decide) (by decide) (by decide) (by decide) fun it s₂ hit S₂ => ?_
  refine ⟨it, _, 30, _, _, F, _, [], fun i F' m N' => F' = F ∧ N' = [] ∧ m (Str.ofString "self") = some (.ref sh) ∧ ((i = 0 ∧ m (Str.ofString "here") = some (.ref r)) ∨ (i = 1 ∧ m (Str.ofString "here") = some f)), rfl, srcR hm'.h hit, S₂.eraseIdx 1, ⟨rfl, rfl, rfl, .inl ⟨rfl, rfl⟩⟩, fun _ _ _ _ _ _ _ => trivial, ?_, ?_⟩
  · rintro i F' m N' u s₃ hi hu ⟨rfl, rfl, hsf, (⟨rfl, hh⟩ | ⟨rfl, hh⟩)⟩ S₃
    · (repeat cell_call)
      refine isInstC (by assumption) hr.inst (by k_is) ?_
      (repeat cell_call)
      ((refine Assign_Tuple ?_ ?hsq19 ?hwq19; (case hsq19 => exact rfl); (case hwq19 => exact rfl)))
      (repeat cell_call)
      refine atGet (by assumption) hsi.inst rfl (by k_is) (by k_is) (by k_is) rfl ?_
      intro s₄ S₄
      refine methD PySem.F.slot_dict_get (by kernel_rfl) (by assumption) exactI (.inr hs.t) ?_
      (repeat cell_call)
      refine atGet (by assumption) hr.inst rfl (by k_is) (by k_is) (by k_is) rfl ?_
      intro s₅ S₅
      (repeat cell_call)
      refine negI (by assumption) ?_
      intro _ _ _
      (repeat cell_call)
      refine mkTup (by assumption) (by (exact small_sizeLine (by simp))) fun a s₆ _ S₆ => ?_
      have S₆ := S₆.tail
      (repeat cell_call)
      refine getDI (by assumption) (.inr hs.t) (nosys hs.n) ?_
      intro _ _
      rw [ht]
      dsimp only [Option.getD_some]
      refine unpackT hm'.h (by assumption) (.inr he) ⟨_, .head _, hL⟩ rfl rfl ?_
      intro _ _
      ((refine wpAny_assignInOrder_more ?_; refine wpAny_assign_Name ?_; (refine' stL ?Sq26 ?_ ?aq26 ?bq26; (case Sq26 => assumption); (case aq26 => exact rfl); (case bq26 => exact rfl); intro _ _)))
      ((refine wpAny_assignInOrder_more ?_; refine wpAny_assign_Name ?_; (refine' stL ?Sq27 ?_ ?aq27 ?bq27; (case Sq27 => assumption); (case aq27 => exact rfl); (case bq27 => exact rfl); intro _ _)))
      ((refine wpAny_assignInOrder_none ?_))
      (repeat cell_call)
      refine atGet (by assumption) hr.inst rfl (by k_is) (by k_is) (by k_is) rfl ?_
      intro _ _
      refine neI ?_
      rw [show ((0 : Int) != 0) = false from rfl]
      (repeat cell_call)
      refine ⟨F', _, [], ⟨rfl, rfl, ?_, .inr ⟨rfl, rfl⟩⟩, by assumption⟩
      exact hsf
    · (repeat cell_call)
      refine isRefNot (by assumption) hf fun s₄ S₄ => ?_
      (repeat cell_call)
      exact h _ (S.ret0 (by assumption))
  · rintro F' m N' s₃ ⟨_, _, _, (⟨h0, _⟩ | ⟨h0, _⟩)⟩ _ <;> cases h0
end

section
variable {prog : Program} {w : World} {A : Around} {P : Params} {s₀ s : Shared} {X : List Addr} {F : Fz} {N : Led} {Q : Value → Shared → Prop} {E : Value → Shared → Prop} {K : Frag}
/-- what fetch gives for v -/
def Fet (F : Fz) (tb : List (Int × Value)) (v f : Value) : Prop := NotRef F f ∧ (v = f ∨ ∃ k e t, RefF F v k ∧ valueAt tb k = some (.ref e) ∧ Has F e (TupO [.int 0 t, f]))
theorem Fet.mono {F F' : Fz} {tb : List (Int × Value)} {v f : Value} (h : Fet F tb v f) (l : F.le F') : Fet F' tb v f := by
  obtain ⟨a, b | ⟨k, e, t, r, x, y⟩⟩ := h
  · exact ⟨a.mono l, .inl b⟩
  · exact ⟨a.mono l, .inr ⟨k, e, t, r.mono l, x, y.mono l⟩⟩
theorem fetch_ {sh T : Addr} {tb : List (Int × Value)} {v f : Value} (S : At (hd.heap_1 P) s₀ X F N s) (hm : Rm A 1) (hs : ShF prog w F sh T tb) (hv : Fet F tb v f)
    (h : ∀ s', At (hd.heap_1 P) s₀ X F N s' → Q f s') : wpAny (model prog w) A (call (.ref 299) [.ref sh, v]) Q E s := by
  obtain ⟨a, rfl | ⟨k, e, t, r, x, y⟩⟩ := hv
  · exact fetch_val S hm a h
  · exact fetch_ref S hm hs r x ⟨t, y⟩ a h
set_option maxHeartbeats 1000000 in
theorem get_ {sh T d : Addr} {tb : List (Int × Value)} {kvs : List (Str × Value)} {k : Str} {t : Tok} {v f : Value} (S : At (hd.heap_1 P) s₀ X F N s) (hm : Rm A 2) (hs : ShF prog w F sh T tb) (hdd : Has F d (DictS prog w kvs)) (h3 : 3 < d)
    (hk : valueAt kvs k = some v) (hv : Fet F tb v f)
    (h : ∀ s', At (hd.heap_1 P) s₀ X F N s' → Q f s') : wpAny (model prog w) A (call (.ref 306) [.ref sh, .ref d, .str k t]) Q E s := by
  obtain ⟨tr, hsi⟩ := hs.i
  ((refine' enter (U := []) (binds := [(Str.ofString "self", Value.ref sh), (Str.ofString "head", Value.ref d), (Str.ofString "key", Value.str k t)]) ?Sq33 ?hmq33 ?hUq33 ?hUnq33 ?k1q33 ?k2q33 ?k3q33 ?k4q33 ?k5q33 ?bodyq33 ?k6q33 ?k7q33 ?k8q33; (case Sq33 => assumption); (case hmq33 => assumption); (case hUq33 => exact fun _ h => nomatch h); (case hUnq33 => exact List.nodup_nil); (case k1q33 => k_is); (case k2q33 => k_is); (case k3q33 => exact BindsTo.of_eq rfl); (case k4q33 => exact locs rfl); (case k5q33 => decide); (case k6q33 => exact rfl); (case k7q33 => exact rfl); (case k8q33 => exact rfl)))
  intro L s' hL S' hm'
  (repeat cell_call)
  refine atMeth (by assumption) hsi.inst rfl (by k_is) (by k_is) (by k_is) ?_
  (repeat cell_call)
  refine methD PySem.F.slot_dict_get (by kernel_rfl) (by assumption) exactS (.inr hdd) ?_
  (repeat cell_call)
  refine getDS1 (by assumption) (.inr hdd) (nosys h3) ?_
  intro s₁ S₁
  rw [hk]
  dsimp only [Option.getD_some]
  (repeat cell_call)
  refine fetch_ S₁ hm' hs hv fun s₂ S₂ => ?_
  exact h _ (S.ret0 (by assumption))
end
section
variable {prog : Program} {w : World} {A : Around} {P : Params} {s₀ s : Shared} {X : List Addr} {F : Fz} {N : Led} {Q : Value → Shared → Prop} {E : Value → Shared → Prop} {K : Frag}
structure HasD (prog : Program) (w : World) (F : Fz) (d : Addr) (kvs : List (Str × Value)) : Prop where
  n : 3 < d
  h : Has F d (DictS prog w kvs)
theorem HasD.mono {F F' : Fz} {d : Addr} {kvs : List (Str × Value)} (h : HasD prog w F d kvs) (l : F.le F') : HasD prog w F' d kvs := ⟨h.n, h.h.mono l⟩
theorem HasD.notRef {d : Addr} {kvs : List (Str × Value)} (h : HasD prog w F d kvs) : NotRef F (.ref d) := let ⟨_, o, e, p⟩ := h; .inr (.inr ⟨d, "dict", rfl, .inl rfl, o, e, (exactS o p).1⟩)
theorem listNotRef {d : Addr} {xs : List Value} (h : Has F d (ListO xs)) : NotRef F (.ref d) := by
  obtain ⟨o, e, n, rfl⟩ := h
  exact .inr (.inr ⟨d, "list", rfl, .inr rfl, _, e, rfl⟩)
theorem keyNotRef {b : Bool} {r : Int} {v k : Value} (hk : RawK b r k) (h : KeyO F b v k) : NotRef F v := by
  cases b with
  | true => obtain rfl : v = k := h; obtain ⟨t, rfl⟩ := hk; exact .inl ⟨_, _, rfl⟩
  | false => obtain ⟨x, rfl, i⟩ := h; exact .inr (.inl ⟨x, _, rfl, i⟩)
theorem KeyO.mono {F F' : Fz} {b : Bool} {v k : Value} (h : KeyO F b v k) (l : F.le F') : KeyO F' b v k := by
  cases b with
  | true => exact h
  | false => obtain ⟨x, e, i⟩ := h; exact ⟨x, e, i.mono l⟩
theorem RawK.handed {b : Bool} {r : Int} {k : Value} (h : RawK b r k) : handedIn k = true := by
  cases b with
  | true => obtain ⟨t, rfl⟩ := h; rfl
  | false => obtain ⟨t, rfl, _⟩ := h; rfl

set_option maxHeartbeats 1000000 in
theorem node_of_ {sh T d : Addr} {tb : List (Int × Value)} {kvs : List (Str × Value)} {v : Value} (S : At (hd.heap_1 P) s₀ X F N s) (hm : Rm A 2) (hs : ShF prog w F sh T tb) (hdd : HasD prog w F d kvs)
    (hv : Fet F tb v (.ref d)) (h : ∀ s', At (hd.heap_1 P) s₀ X F N s' → Q (.ref d) s') : wpAny (model prog w) A (call (.ref 386) [.ref sh, v]) Q E s := by
  obtain ⟨tr, hsi⟩ := hs.i
  ((refine' enter (U := []) (binds := [(Str.ofString "shelf", Value.ref sh), (Str.ofString "value", v)]) ?Sq38 ?hmq38 ?hUq38 ?hUnq38 ?k1q38 ?k2q38 ?k3q38 ?k4q38 ?k5q38 ?bodyq38 ?k6q38 ?k7q38 ?k8q38; (case Sq38 => assumption); (case hmq38 => assumption); (case hUq38 => exact fun _ h => nomatch h); (case hUnq38 => exact List.nodup_nil); (case k1q38 => k_is); (case k2q38 => k_is); (case k3q38 => exact BindsTo.of_eq rfl); (case k4q38 => exact locs rfl); (case k5q38 => decide); (case k6q38 => exact rfl); (case k7q38 => exact rfl); (case k8q38 => exact rfl)))
  intro L s' hL S' hm'
  (repeat cell_call)
  refine atMeth (by assumption) hsi.inst rfl (by k_is) (by k_is) (by k_is) ?_
  (repeat cell_call)
  refine fetch_ (by assumption) hm' hs hv fun s₂ S₂ => ?_
  (repeat cell_call)
  obtain ⟨o, e, p⟩ := hdd.h
  refine IsiPair.dict_dict (At.fz (by assumption) _ _ e) (exactS o p).1 ?_
  (repeat cell_call)
  exact h _ (S.ret0 (by assumption))
set_option maxHeartbeats 1000000 in
theorem row_of_ {sh T d l : Addr} {tb : List (Int × Value)} {kvs : List (Str × Value)} {k : Str} {t : Tok} {xs : List Value} (S : At (hd.heap_1 P) s₀ X F N s) (hm : Rm A 3) (hs : ShF prog w F sh T tb) (hdd : HasD prog w F d kvs)
    (hk : valueAt kvs k = some (.ref l)) (hl : Has F l (ListO xs)) (h : ∀ s', At (hd.heap_1 P) s₀ X F N s' → Q (.ref l) s') : wpAny (model prog w) A (call (.ref 393) [.ref sh, .ref d, .str k t]) Q E s := by
  obtain ⟨tr, hsi⟩ := hs.i
  ((refine' enter (U := []) (binds := [(Str.ofString "shelf", Value.ref sh), (Str.ofString "node", Value.ref d), (Str.ofString "key", Value.str k t)]) ?Sq43 ?hmq43 ?hUq43 ?hUnq43 ?k1q43 ?k2q43 ?k3q43 ?k4q43 ?k5q43 ?bodyq43 ?k6q43 ?k7q43 ?k8q43; (case Sq43 => assumption); (case hmq43 => assumption); (case hUq43 => exact fun _ h => nomatch h); (case hUnq43 => exact List.nodup_nil); (case k1q43 => k_is); (case k2q43 => k_is); (case k3q43 => exact BindsTo.of_eq rfl); (case k4q43 => exact locs rfl); (case k5q43 => decide); (case k6q43 => exact rfl); (case k7q43 => exact rfl); (case k8q43 => exact rfl)))
  intro L s' hL S' hm'
  (repeat cell_call)
  refine atMeth (by assumption) hsi.inst rfl (by k_is) (by k_is) (by k_is) ?_
  (repeat cell_call)
  refine get_ (by assumption) hm' hs hdd.h hdd.n hk ⟨listNotRef hl, .inl rfl⟩ fun s₂ S₂ => ?_
  (repeat cell_call)
  have hl' := hl
  obtain ⟨o, e, n, rfl⟩ := hl'
  refine IsiPair.list_list (At.fz (by assumption) _ _ e) rfl ?_
  (repeat cell_call)
  exact h _ (S.ret0 (by assumption))
/-- the limits of a node -/
structure LimF (prog : Program) (w : World) (F : Fz) (b : Bool) (kvs : List (Str × Value)) (r1 r2 : Int) : Prop where
  h : ∃ l v1 v2 k1 k2, valueAt kvs (Str.ofString "Limits") = some (.ref l) ∧ Has F l (ListO [v1, v2]) ∧ KeyO F b v1 k1 ∧ RawK b r1 k1 ∧ KeyO F b v2 k2 ∧ RawK b r2 k2
theorem LimF.mono {F F' : Fz} {b : Bool} {kvs : List (Str × Value)} {r1 r2 : Int} (h : LimF prog w F b kvs r1 r2) (g : F.le F') : LimF prog w F' b kvs r1 r2 :=
  let ⟨l, v1, v2, k1, k2, a1, a2, a3, a4, a5, a6⟩ := h.h; ⟨l, v1, v2, k1, k2, a1, a2.mono g, a3.mono g, a4, a5.mono g, a6⟩
set_option maxHeartbeats 1000000 in
theorem node_limits_ {sh T d : Addr} {tb : List (Int × Value)} {kvs : List (Str × Value)} {b : Bool} {wd : Value} {r1 r2 : Int} (S : At (hd.heap_1 P) s₀ X F N s) (hm : Rm A 4) (hs : ShF prog w F sh T tb) (hdd : HasD prog w F d kvs) (hw : WordV b wd)
    (hli : LimF prog w F b kvs r1 r2) (h : ∀ a k1 k2 s', s₀.heap.objs.size ≤ a → RawK b r1 k1 → RawK b r2 k2 → At (hd.heap_1 P) s₀ X F ((a, TupO [k1, k2]) :: N) s' → Q (.ref a) s') : wpAny (model prog w) A (call (.ref 405) [.ref sh, .ref d, wd]) Q E s := by
  obtain ⟨tr, hsi⟩ := hs.i
  obtain ⟨l, v1, v2, k1, k2, a1, a2, a3, a4, a5, a6⟩ := hli.h
  ((refine' enter (U := []) (binds := [(Str.ofString "shelf", Value.ref sh), (Str.ofString "node", Value.ref d), (Str.ofString "word", wd)]) ?Sq48 ?hmq48 ?hUq48 ?hUnq48 ?k1q48 ?k2q48 ?k3q48 ?k4q48 ?k5q48 ?bodyq48 ?k6q48 ?k7q48 ?k8q48; (case Sq48 => assumption); (case hmq48 => assumption); (case hUq48 => exact fun _ h => nomatch h); (case hUnq48 => exact List.nodup_nil); (case k1q48 => k_is); (case k2q48 => k_is); (case k3q48 => exact BindsTo.of_eq rfl); (case k4q48 => exact locs rfl); (case k5q48 => decide); (case k6q48 => exact rfl); (case k7q48 => exact rfl); (case k8q48 => exact rfl)))
  intro L s' hL S' hm'
  (repeat cell_call)
  refine row_of_ (by assumption) hm' hs hdd a1 a2 ?_
  intro _ _
  (repeat cell_call)
  refine lenL (by assumption) (.inr a2) (by simp) ?_
  intro _ _ _
  (repeat cell_call)
  refine neI ?_
  rw [show ((([v1, v2] : List Value).length : Int) != 2) = false from rfl]
  (repeat cell_call)
  refine atMeth (by assumption) hsi.inst rfl (by k_is) (by k_is) (by k_is) ?_
  (repeat cell_call)
  refine subL (by assumption) (.inr a2) (by decide) (by decide) rfl ?_ rfl
  (repeat cell_call)
  refine fetch_val (by assumption) (hm'.mono (by decide)) (keyNotRef a4 a3) ?_
  intro _ _
  (repeat cell_call)
  refine key_of_ (by assumption) (hm'.mono (by decide)) hw a4 a3 ?_
  intro _ _
  (repeat cell_call)
  refine atMeth (by assumption) hsi.inst rfl (by k_is) (by k_is) (by k_is) ?_
  (repeat cell_call)
  refine subL (by assumption) (.inr a2) (by decide) (by decide) rfl ?_ rfl
  (repeat cell_call)
  refine fetch_val (by assumption) (hm'.mono (by decide)) (keyNotRef a6 a5) ?_
  intro _ _
  (repeat cell_call)
  refine key_of_ (by assumption) (hm'.mono (by decide)) hw a6 a5 ?_
  intro _ _
  (repeat cell_call)
  refine mkTup (by assumption) (by (exact small_sizeLine (by simp))) fun a s₆ ha S₆ => ?_
  exact h a k1 k2 _ (Nat.le_trans S.size ha) a4 a6 (At.back0 (R := [_]) S S₆ (Grow.refl _ _) (by simp) (by simp))
end

-- C3
inductive Al {α β : Type} (R : α → β → Prop) : List α → List β → Prop
  | nil : Al R [] []
  | cons {x y xs ys} : R x y → Al R xs ys → Al R (x :: xs) (y :: ys)
namespace Al
variable {α β : Type} {R R' : α → β → Prop} {xs xs' : List α} {ys ys' : List β}
theorem mono (h : Al R xs ys) (k : ∀ x y, R x y → R' x y) : Al R' xs ys := by
  induction h with
  | nil => exact .nil
  | cons a _ ih => exact .cons (k _ _ a) ih
theorem append (h : Al R xs ys) (h' : Al R xs' ys') : Al R (xs ++ xs') (ys ++ ys') := by
  induction h with
  | nil => exact h'
  | cons a _ ih => exact .cons a ih
theorem snoc {x : α} {y : β} (h : Al R xs ys) (h' : R x y) : Al R (xs ++ [x]) (ys ++ [y]) := h.append (.cons h' .nil)
theorem length (h : Al R xs ys) : xs.length = ys.length := by
  induction h with
  | nil => rfl
  | cons _ _ ih => simp [ih]
theorem get {i : Nat} {x : α} (h : Al R xs ys) (e : xs[i]? = some x) : ∃ y, ys[i]? = some y ∧ R x y := by
  induction h generalizing i with
  | nil => simp at e
  | cons a _ ih =>
    cases i with
    | zero => simp at e; subst e; exact ⟨_, rfl, a⟩
    | succ i => simpa using ih (by simpa using e)
theorem get' {i : Nat} {y : β} (h : Al R xs ys) (e : ys[i]? = some y) : ∃ x, xs[i]? = some x ∧ R x y := by
  induction h generalizing i with
  | nil => simp at e
  | cons a _ ih =>
    cases i with
    | zero => simp at e; subst e; exact ⟨_, rfl, a⟩
    | succ i => simpa using ih (by simpa using e)
theorem reverse (h : Al R xs ys) : Al R xs.reverse ys.reverse := by
  induction h with
  | nil => exact .nil
  | cons a _ ih => simp only [List.reverse_cons]; exact ih.snoc a
theorem drop (h : Al R xs ys) (n : Nat) : Al R (xs.drop n) (ys.drop n) := by
  induction h generalizing n with
  | nil => simpa using .nil
  | cons a b ih =>
    cases n with
    | zero => exact .cons a b
    | succ n => simpa using ih n
theorem take (h : Al R xs ys) (n : Nat) : Al R (xs.take n) (ys.take n) := by
  induction h generalizing n with
  | nil => simpa using .nil
  | cons a b ih =>
    cases n with
    | zero => simpa using .nil
    | succ n => simpa using .cons a (ih n)
end Al
theorem take_snoc {α : Type} {xs : List α} {i : Nat} {x : α} (h : xs[i]? = some x) : xs.take (i + 1) = xs.take i ++ [x] := by rw [List.take_add_one, h]; rfl
section
variable {prog : Program} {w : World} {A : Around} {P : Params} {s₀ s : Shared} {X : List Addr} {F : Fz} {N : Led} {Q : Value → Shared → Prop} {E : Value → Shared → Prop} {K : Frag}
def PairF (F : Fz) (b : Bool) (n : Nat) (v : Value) : Prop := ∃ a k t, v = .ref a ∧ Has F a (TupO [k, .int n t]) ∧ RawK b (3 * n) k
theorem PairF.mono {F F' : Fz} {b : Bool} {n : Nat} {v : Value} (h : PairF F b n v) (l : F.le F') : PairF F' b n v := let ⟨a, k, t, e, x, y⟩ := h; ⟨a, k, t, e, x.mono l, y⟩
/-- a leaf's row: keys and values -/
def RowF (F : Fz) (b : Bool) (ns : List Nat) (xs : List Value) : Prop := xs.length = 2 * ns.length ∧ ∀ (i : Nat) (n : Nat), ns[i]? = some n → ∃ v k t, xs[2 * i]? = some v ∧ xs[2 * i + 1]? = some (.int n t) ∧ KeyO F b v k ∧ RawK b (3 * n) k
theorem RowF.mono {F F' : Fz} {b : Bool} {ns : List Nat} {xs : List Value} (h : RowF F b ns xs) (l : F.le F') : RowF F' b ns xs := ⟨h.1, fun i n e => let ⟨v, k, t, a1, a2, a3, a4⟩ := h.2 i n e; ⟨v, k, t, a1, a2, a3.mono l, a4⟩⟩

set_option maxHeartbeats 1000000 in
theorem node_pairs_ {sh T d l : Addr} {tb : List (Int × Value)} {kvs : List (Str × Value)} {b : Bool} {t : Tok} {ns : List Nat} {xs : List Value} (S : At (hd.heap_1 P) s₀ X F N s) (hm : Rm A 4) (hs : ShF prog w F sh T tb) (hdd : HasD prog w F d kvs)
    (hk : valueAt kvs (wordS b) = some (.ref l)) (hl : Has F l (ListO xs)) (hr : RowF F b ns xs) (hn : ns.length ≤ 1000)
    (h : ∀ a F' ps s', s₀.heap.objs.size ≤ a → Grow s.heap.objs.size F F' → Al (PairF F' b) ns ps → At (hd.heap_1 P) s₀ X F' ((a, ListO ps) :: N) s' → Q (.ref a) s') : wpAny (model prog w) A (call (.ref 398) [.ref sh, .ref d, .str (wordS b) t]) Q E s := by
  obtain ⟨tr, hsi⟩ := hs.i
  ((refine' enterC (U := []) (binds := [(Str.ofString "shelf", Value.ref sh), (Str.ofString "node", Value.ref d), (Str.ofString "word", Value.str (wordS b) t)]) (cs := (fun L => [(L + 1 + 1 + 1, none), (L + 1 + 1, some (Value.str (wordS b) t)), (L + 1, some (Value.ref sh))])) ?Sq62 ?hmq62 ?hUq62 ?hUnq62 ?k1q62 ?k2q62 ?k3q62 ?k4q62 ?k5q62 ?k9q62 ?bodyq62 ?k6q62 ?k7q62 ?k8q62; (case Sq62 => assumption); (case hmq62 => assumption); (case hUq62 => first | exact fun _ h => nomatch h | skip); (case hUnq62 => first | exact List.nodup_nil | skip); (case k1q62 => k_is); (case k2q62 => k_is); (case k3q62 => exact BindsTo.of_eq rfl); (case k4q62 => exact rfl); (case k5q62 => decide); (case k9q62 => (intro _; exact rfl)); (case k6q62 => exact rfl); (case k7q62 => exact rfl); (case k8q62 => exact rfl)))
  intro L s' hL S' hm'
  (repeat cell_call)
  refine notInDS (by assumption) (.inr hdd.h) (nosys hdd.n) ?_
  intro _ _
  rw [hk]
  dsimp only [Option.isSome_some]
  (repeat cell_call)
  refine row_of_ (by assumption) hm' hs hdd hk hl ?_
  intro _ _
  (repeat cell_call)
  refine lenL (by assumption) (.inr hl) (by rw [hr.1]; lia) ?_
  intro _ _ _
  (repeat cell_call)
  refine modI (by assumption) (by decide) ?_
  intro _ _ _
  (repeat cell_call)
  refine neI ?_
  rw [show (((xs.length : Int) % 2) != 0) = false from by rw [hr.1]; simp]
  (repeat cell_call)
  refine compE0 (K := hd.heap_1 P) (X := []) (s₀ := s) (by exact rfl) (by decide) rfl (by decide) (by exact rfl) ?_
  (repeat cell_call)
  refine lenL (by assumption) (.inr hl) (by rw [hr.1]; lia) ?_
  intro _ _ _
  (repeat cell_call)
  refine range3 (by assumption) (by decide) (by decide) fun rr s₁ S₁ => ?_
  refine iterRange' (n := ns.length) S₁ (.inl (.head _)) (by decide) (by decide) ?_ (by lia) (by decide) (by decide) (by lia) (by rw [hr.1]; lia) fun it s₂ hit S₂ => ?_
  · unfold Builtin.Range.rangeSize
    rw [if_pos (by decide), hr.1]
    push_cast
    split <;> lia
  refine ⟨it, _, ns.length, _, _, F, _, fun i F' ys => Grow s.heap.objs.size F F' ∧ Al (PairF F' b) (ns.take i) ys, rfl, srcR hm'.h hit, small_sizeLine (by lia), S₂.eraseIdx 1, ⟨Grow.refl _ _, by simpa using .nil⟩, fun _ _ _ _ _ _ => trivial, ?_, ?_⟩
  · rintro i F' ys v mc C acc s₃ hi ⟨u, rfl⟩ ⟨hg, hys⟩ S₃
    have hx : ns[i]? = some ns[i] := List.getElem?_eq_getElem hi
    obtain ⟨kv, k, t5, x1, x2, x3, x4⟩ := hr.2 i _ hx
    have hl' := hl.mono hg.1
    show wpAny _ _ (pure true) _ _ _
    refine wpAny_pure ?_
    (repeat cell_call)
    refine atMeth (by assumption) (hsi.mono hg.1).inst rfl (by k_is) (by k_is) (by k_is) ?_
    (repeat cell_call)
    refine subL (by assumption) (.inr hl') (by lia) (by lia) (by rw [show (0 + (i : Int) * 2).toNat = 2 * i from by lia]; exact x1) ?_ rfl
    (repeat cell_call)
    refine fetch_val (by assumption) (hm'.mono (by decide)) (keyNotRef x4 (x3.mono hg.1)) ?_
    intro _ _
    (repeat cell_call)
    refine key_of_ (by assumption) (hm'.mono (by decide)) ⟨_, rfl⟩ x4 (x3.mono hg.1) ?_
    intro _ _
    (repeat cell_call)
    refine addI (by assumption) ?_
    intro _ _ _
    (repeat cell_call)
    refine subL (by assumption) (.inr hl') (by lia) (by lia) (by rw [show (0 + (i : Int) * 2 + 1).toNat = 2 * i + 1 from by lia]; exact x2) ?_ rfl
    (repeat cell_call)
    refine mkTup (by assumption) (by (exact small_sizeLine (by simp))) fun a s₆ ha S₆ => ?_
    obtain ⟨o, po, hfa, gr, S₇⟩ := S₆.freeze ha
    refine ⟨_, _, ⟨hg.trans gr (Nat.le_refl _), ?_⟩, S₇⟩
    rw [take_snoc hx]
    exact (hys.mono fun _ _ hp => hp.mono gr.1).snoc ⟨a, k, t5, rfl, ⟨o, Fz.add_self _ _ _, po⟩, x4⟩
  · rintro F' ys acc s₃ ⟨hg, hys⟩ hlen hacc S₃
    rw [List.take_length] at hys
    exact h acc F' ys _ (Nat.le_trans S.size hacc) hg hys (At.back (U := []) (R := [_]) S S₃ hg (by simp) (by simp) (by simp))
end

section
variable {prog : Program} {w : World} {A : Around} {P : Params} {s₀ s : Shared} {X : List Addr} {F : Fz} {N : Led} {Q : Value → Shared → Prop} {E : Value → Shared → Prop} {K : Frag}
/-- what lies behind on the way: pairs of numbers, none of them below m but -1 -/
def PlaceF (F : Fz) (m : Int) (v : Value) : Prop := ∃ a x g t u, v = .ref a ∧ Has F a (TupO [.int x t, .int g u]) ∧ (x = -1 ∨ m ≤ x)
def WayF (F : Fz) (m : Int) (n : Nat) (wy : Addr) : Prop := ∃ ps, Has F wy (TupO ps) ∧ ps.length = n ∧ ∀ v ∈ ps, PlaceF F m v
theorem PlaceF.mono {F F' : Fz} {m m' : Int} {v : Value} (h : PlaceF F m v) (l : F.le F') (hm : m' ≤ m) : PlaceF F' m' v := let ⟨a, x, g, t, u, e, p, q⟩ := h; ⟨a, x, g, t, u, e, p.mono l, by lia⟩
theorem WayF.mono {F F' : Fz} {m m' : Int} {n : Nat} {wy : Addr} (h : WayF F m n wy) (l : F.le F') (hm : m' ≤ m) : WayF F' m' n wy := let ⟨ps, a, b, c⟩ := h; ⟨ps, a.mono l, b, fun v hv => (c v hv).mono l hm⟩
theorem addT0 {l b : Addr} {ys : List Value} (S : At K s₀ X F N s) (hl : Here F N l (TupO [])) (hb : Here F N b (TupO ys)) (h : Q (.ref b) s) :
    wpAny (model prog w) A (binaryOp .Add (.ref l) (.ref b)) Q E s := by
  obtain ⟨o, e, n, rfl⟩ := S.here hl
  obtain ⟨o2, e2, n2, rfl⟩ := S.here hb
  exact concat_meets ⟨_, e, rfl⟩ ⟨_, e2, rfl⟩ noFill_tuple_add seq_tuple_add PySem.F.slot_tuple_add PySem.F.entry_tuple_add (PySem.F.args_tuple_add_2 _ _) (tuple_addW0 l b #[] ys.toArray n n2 none none #[] #[] (by simp)) ⟨e, e2, h⟩
theorem wayAdd {wy b a : Addr} {ps : List Value} (S : At K s₀ X F ((b, TupO [.ref a]) :: N) s) (hps : Has F wy (TupO ps)) (hb : s₀.heap.objs.size ≤ b) (hz : ps.length ≤ 1000)
    (h : ∀ c F' s', Grow s₀.heap.objs.size F F' → Has F' c (TupO (ps ++ [.ref a])) → At K s₀ X F' N s' → Q (.ref c) s') : wpAny (model prog w) A (binaryOp .Add (.ref wy) (.ref b)) Q E s := by
  by_cases he : ps = []
  · subst he
    refine addT0 S (.inr hps) (.inl (.head _)) ?_
    obtain ⟨o, po, hfa, gr, S₂⟩ := S.freeze hb
    exact h b _ _ gr ⟨o, Fz.add_self _ _ _, po⟩ S₂
  · refine addT S (.inr hps) (.inl (.head _)) he (by simp) (by simp; lia) fun c s' hc S' => ?_
    obtain ⟨o, po, hfa, gr, S₂⟩ := S'.freeze hc
    exact h c _ _ gr ⟨o, Fz.add_self _ _ _, po⟩ S₂.tail
theorem WayF.add {F' : Fz} {c : Addr} {m m' : Int} {n : Nat} {ps : List Value} {v : Value} (hlen : ps.length = n) (hall : ∀ v ∈ ps, PlaceF F m v) (l : F.le F') (hm : m' ≤ m) (hc : Has F' c (TupO (ps ++ [v]))) (hv : PlaceF F' m' v) : WayF F' m' (n + 1) c :=
  ⟨_, hc, by simp [hlen], fun u hu => by
    rcases List.mem_append.mp hu with hu | hu
    · exact (hall u hu).mono l hm
    · rw [List.mem_singleton] at hu; subst hu; exact hv⟩
set_option maxHeartbeats 1000000 in
theorem longer_way_root {wy : Addr} {v : Value} {m : Int} {n : Nat} (S : At (hd.heap_1 P) s₀ X F N s) (hm : Rm A 1) (hv : NotRef F v) (hw : WayF F m n wy) (hn : n ≤ 40)
    (h : ∀ a F' s', Grow s.heap.objs.size F F' → WayF F' m (n + 1) a → At (hd.heap_1 P) s₀ X F' N s' → Q (.ref a) s') : wpAny (model prog w) A (call (.ref 412) [.ref wy, v]) Q E s := by
  obtain ⟨ps, hps, hlen, hall⟩ := hw
  ((refine' enter (U := []) (binds := [(Str.ofString "way", Value.ref wy), (Str.ofString "value", v)]) ?Sq79 ?hmq79 ?hUq79 ?hUnq79 ?k1q79 ?k2q79 ?k3q79 ?k4q79 ?k5q79 ?bodyq79 ?k6q79 ?k7q79 ?k8q79; (case Sq79 => assumption); (case hmq79 => assumption); (case hUq79 => exact fun _ h => nomatch h); (case hUnq79 => exact List.nodup_nil); (case k1q79 => k_is); (case k2q79 => k_is); (case k3q79 => exact BindsTo.of_eq rfl); (case k4q79 => exact locs rfl); (case k5q79 => decide); (case k6q79 => exact rfl); (case k7q79 => exact rfl); (case k8q79 => exact rfl)))
  intro L s' hL S' hm'
  (repeat cell_call)
  refine negI (by assumption) ?_
  intro _ _ _
  (repeat cell_call)
  refine negI (by assumption) ?_
  intro _ _ _
  (repeat cell_call)
  refine mkTup (by assumption) (by (exact small_sizeLine (by simp))) fun a s₁ ha S₁ => ?_
  obtain ⟨o, po, hfa, gr, S₂⟩ := S₁.freeze ha
  have hpa : Has (F.add a o) a (TupO _) := ⟨o, Fz.add_self _ _ _, po⟩
  (repeat cell_call)
  refine isRefNot (by assumption) (hv.mono gr.1) fun s₄ S₄ => ?_
  (repeat cell_call)
  refine lenT (by assumption) (.inr (hps.mono gr.1)) (by lia) ?_
  intro _ _ _
  (repeat cell_call)
  refine gtF (by lia) ?_
  (repeat cell_call)
  refine mkTup (by assumption) (by (exact small_sizeLine (by simp))) fun b s₅ hb S₅ => ?_
  refine wayAdd S₅ (hps.mono gr.1) hb (by lia) fun c F' s₆ gr' hc S₆ => ?_
  (repeat cell_call)
  exact h c F' _ (gr.trans gr' (Nat.le_refl _)) (WayF.add hlen hall (gr.1.trans gr'.1) (Int.le_refl _) hc ⟨a, -1, -1, _, _, rfl, hpa.mono gr'.1, .inl rfl⟩) (S.ret S₆ (gr.trans gr' (Nat.le_refl _)))
theorem eqAt_int {s : Shared} (a b : Int) (t u : Tok) : SeqAt.EqAt A s (.int a t) (.int b u) (a == b) := (MeetsSeq.EqGives.int a b t u).at _ _
theorem placeNe {a b : Addr} {x g k z : Int} {t1 t2 t3 t4 : Tok} {h : Shared} (hf : ∀ b o, F b = some o → h.heap.get? b = some o) (hb : Has F b (TupO [.int x t1, .int g t2])) (ha : Has F a (TupO [.int k t3, .int z t4])) (hne : b ≠ a) (hx : x ≠ k) (hu : A.units < cLine) :
    SeqAt.EqAt A h (.ref b) (.ref a) false := by
  obtain ⟨_, e1, n1, rfl⟩ := hb
  obtain ⟨_, e2, n2, rfl⟩ := ha
  refine SeqAt.EqAt.of_refs hne ?_
  have := SeqAt.RcAt.tuples (A := A) (s := h) (e := fun j => if j = 0 then x == k else g == z) (l := b) (b := a) ⟨_, hf _ _ e1, rfl, n1, rfl⟩ ⟨_, hf _ _ e2, rfl, n2, rfl⟩ hu (fun j h1 h2 => ?_)
  · have hxk : (x == k) = false := beq_eq_false_iff_ne.mpr hx
    simpa [List.range, List.range.loop, hxk] using this
  · rcases j with _ | _ | j
    · exact eqAt_int _ _ _ _
    · exact eqAt_int _ _ _ _
    · exact absurd h1 (by simp)
set_option maxHeartbeats 1000000 in
theorem longer_way_ref {wy : Addr} {v : Value} {m k : Int} {n : Nat} (S : At (hd.heap_1 P) s₀ X F N s) (hm : Rm A 1) (hv : RefF F v k) (hk : 0 < k) (hkm : k < m) (hw : WayF F m n wy) (hn : n ≤ 40)
    (h : ∀ a F' s', Grow s.heap.objs.size F F' → WayF F' k (n + 1) a → At (hd.heap_1 P) s₀ X F' N s' → Q (.ref a) s') : wpAny (model prog w) A (call (.ref 412) [.ref wy, v]) Q E s := by
  obtain ⟨ps, hps, hlen, hall⟩ := hw
  obtain ⟨r, t1, t2, rfl, hr⟩ := hv
  ((refine' enter (U := []) (binds := [(Str.ofString "way", Value.ref wy), (Str.ofString "value", Value.ref r)]) ?Sq90 ?hmq90 ?hUq90 ?hUnq90 ?k1q90 ?k2q90 ?k3q90 ?k4q90 ?k5q90 ?bodyq90 ?k6q90 ?k7q90 ?k8q90; (case Sq90 => assumption); (case hmq90 => assumption); (case hUq90 => exact fun _ h => nomatch h); (case hUnq90 => exact List.nodup_nil); (case k1q90 => k_is); (case k2q90 => k_is); (case k3q90 => exact BindsTo.of_eq rfl); (case k4q90 => exact locs rfl); (case k5q90 => decide); (case k6q90 => exact rfl); (case k7q90 => exact rfl); (case k8q90 => exact rfl)))
  intro L s' hL S' hm'
  (repeat cell_call)
  refine negI (by assumption) ?_
  intro _ _ _
  (repeat cell_call)
  refine negI (by assumption) ?_
  intro _ _ _
  (repeat cell_call)
  refine mkTup (by assumption) (by (exact small_sizeLine (by simp))) fun a₀ s₁ ha S₁ => ?_
  have S₁ := S₁.tail
  (repeat cell_call)
  refine isInstC (by assumption) hr.inst (by k_is) ?_
  (repeat cell_call)
  refine atGet (by assumption) hr.inst rfl (by k_is) (by k_is) (by k_is) rfl ?_
  intro _ _
  (repeat cell_call)
  refine atGet (by assumption) hr.inst rfl (by k_is) (by k_is) (by k_is) rfl ?_
  intro _ _
  (repeat cell_call)
  refine mkTup (by assumption) (by (exact small_sizeLine (by simp))) fun a s₂ ha S₂ => ?_
  obtain ⟨o, po, hfa, gr, S₃⟩ := S₂.freeze ha
  have hpa : Has (F.add a o) a (TupO _) := ⟨o, Fz.add_self _ _ _, po⟩
  (repeat cell_call)
  refine SeqAt.in_tupleAt (fun _ => false) (At.isTuple (by assumption) (.inr (hps.mono gr.1))) (fun y hy => ?_) ?_
  · obtain ⟨b, x, g, t3, t4, rfl, hb, hx⟩ := hall y (by simpa using hy)
    have hne : b ≠ a := fun q => by obtain ⟨ob, eb, _⟩ := hb; rw [q, hfa] at eb; cases eb
    exact placeNe (At.fz (by assumption)) (hb.mono gr.1) hpa hne (by lia) (by have := hm'.u; show _ + 1 < _; lia)
  rw [show (ps.toArray.any fun _ => false) = false from by simp]
  (repeat cell_call)
  refine lenT (by assumption) (.inr (hps.mono gr.1)) (by lia) ?_
  intro _ _ _
  (repeat cell_call)
  refine gtF (by lia) ?_
  (repeat cell_call)
  refine mkTup (by assumption) (by (exact small_sizeLine (by simp))) fun b s₅ hb S₅ => ?_
  refine wayAdd S₅ (hps.mono gr.1) hb (by lia) fun c F' s₆ gr' hc S₆ => ?_
  (repeat cell_call)
  exact h c F' _ (gr.trans gr' (Nat.le_refl _)) (WayF.add hlen hall (gr.1.trans gr'.1) (Int.le_of_lt hkm) hc ⟨a, k, 0, _, _, rfl, hpa.mono gr'.1, .inr (Int.le_refl _)⟩) (S.ret S₆ (gr.trans gr' (Nat.le_refl _)))
end

-- C4
theorem order_bs : ∀ r < 62, ∀ r' < 62, r % 3 ≠ 2 → r' % 3 ≠ 2 → PySem.Builtin.Bytes.order (bsOf r).toList (bsOf r').toList = compare r r' := by decide +kernel
theorem order_raw {r r' : Int} (h0 : 0 ≤ r) (h : r < 62) (h3 : r % 3 ≠ 2) (h0' : 0 ≤ r') (h' : r' < 62) (h3' : r' % 3 ≠ 2) : PySem.Builtin.Bytes.order (bsOf r.toNat).toList (bsOf r'.toNat).toList = compare r.toNat r'.toNat :=
  order_bs _ (by lia) _ (by lia) (by lia) (by lia)
theorem cmp_lt {a b : Nat} (h : a < b) : compare a b = .lt := Nat.compare_eq_lt.mpr h
theorem cmp_gt {a b : Nat} (h : b < a) : compare a b = .gt := Nat.compare_eq_gt.mpr h
theorem cmp_eq {a b : Nat} (h : a = b) : compare a b = .eq := Nat.compare_eq_eq.mpr h
section
variable {prog : Program} {w : World} {A : Around} {E : Value → Shared → Prop} {s : Shared} {Q : Value → Shared → Prop} {b : Bool} {r r' : Int} {v v' : Value}
theorem ltK (h : RawK b r v) (h' : RawK b r' v') (q : Q (.bool (decide (r < r'))) s) : wpAny (model prog w) A (compareOp .Lt v v') Q E s := by
  cases b with
  | true => obtain ⟨t, rfl⟩ := h; obtain ⟨u, rfl⟩ := h'; exact ltI q
  | false =>
    obtain ⟨t, rfl, a0, a1, a2⟩ := h; obtain ⟨u, rfl, b0, b1, b2⟩ := h'
    refine lt_bytes ?_
    rw [order_raw a0 a1 a2 b0 b1 b2]
    by_cases c : r < r'
    · rw [cmp_lt (by lia)]; rw [decide_eq_true c] at q; exact q
    · rw [decide_eq_false c] at q
      by_cases d : r = r'
      · rw [cmp_eq (by lia)]; exact q
      · rw [cmp_gt (by lia)]; exact q
theorem gtK (h : RawK b r v) (h' : RawK b r' v') (q : Q (.bool (decide (r' < r))) s) : wpAny (model prog w) A (compareOp .Gt v v') Q E s := by
  cases b with
  | true => obtain ⟨t, rfl⟩ := h; obtain ⟨u, rfl⟩ := h'; exact gtI q
  | false =>
    obtain ⟨t, rfl, a0, a1, a2⟩ := h; obtain ⟨u, rfl, b0, b1, b2⟩ := h'
    refine gt_bytes ?_
    rw [order_raw a0 a1 a2 b0 b1 b2]
    by_cases c : r' < r
    · rw [cmp_gt (by lia)]; rw [decide_eq_true c] at q; exact q
    · rw [decide_eq_false c] at q
      by_cases d : r = r'
      · rw [cmp_eq (by lia)]; exact q
      · rw [cmp_lt (by lia)]; exact q
theorem leK (h : RawK b r v) (h' : RawK b r' v') (q : Q (.bool (decide (r ≤ r'))) s) : wpAny (model prog w) A (compareOp .LtE v v') Q E s := by
  cases b with
  | true => obtain ⟨t, rfl⟩ := h; obtain ⟨u, rfl⟩ := h'; exact leI q
  | false =>
    obtain ⟨t, rfl, a0, a1, a2⟩ := h; obtain ⟨u, rfl, b0, b1, b2⟩ := h'
    refine le_bytes ?_
    rw [order_raw a0 a1 a2 b0 b1 b2]
    by_cases c : r < r'
    · rw [cmp_lt (by lia)]; rw [decide_eq_true (by lia)] at q; exact q
    · by_cases d : r = r'
      · rw [cmp_eq (by lia)]; rw [decide_eq_true (by lia)] at q; exact q
      · rw [cmp_gt (by lia)]; rw [decide_eq_false (by lia)] at q; exact q
theorem bsOf_inj : ∀ r < 62, ∀ r' < 62, r % 3 ≠ 2 → r' % 3 ≠ 2 → ((bsOf r).toList == (bsOf r').toList) = decide (r = r') := by decide +kernel
theorem eqAtK {A : Around} {s : Shared} (h : RawK b r v) (h' : RawK b r' v') : SeqAt.EqAt A s v v' (decide (r = r')) := by
  cases b with
  | true =>
    obtain ⟨t, rfl⟩ := h; obtain ⟨u, rfl⟩ := h'
    have := eqAt_int (A := A) (s := s) r r' t u
    rwa [show (r == r') = decide (r = r') from rfl] at this
  | false =>
    obtain ⟨t, rfl, a0, a1, a2⟩ := h; obtain ⟨u, rfl, b0, b1, b2⟩ := h'
    intro prog w E Q q
    refine eqBool_bytes ?_
    have h1 := bsOf_inj r.toNat (by lia) r'.toNat (by lia) (by lia) (by lia)
    have h2 : ((bsOf r.toNat).toList = (bsOf r'.toNat).toList) ↔ r = r' := by
      rw [← beq_iff_eq, h1, decide_eq_true_iff]; lia
    rw [decide_eq_decide.mpr h2]; exact q
theorem neK (h : RawK b r v) (h' : RawK b r' v') (q : Q (.bool (decide (r ≠ r'))) s) : wpAny (model prog w) A (compareOp .NotEq v v') Q E s := by
  cases b with
  | true => obtain ⟨t, rfl⟩ := h; obtain ⟨u, rfl⟩ := h'; exact neI (by rw [show (r != r') = decide (r ≠ r') from by by_cases c : r = r' <;> simp [c]]; exact q)
  | false =>
    obtain ⟨t, rfl, a0, a1, a2⟩ := h; obtain ⟨u, rfl, b0, b1, b2⟩ := h'
    refine ne_bytes ?_
    have h1 := bsOf_inj r.toNat (by lia) r'.toNat (by lia) (by lia) (by lia)
    have h2 : (r.toNat = r'.toNat) ↔ r = r' := by lia
    rw [bne, h1, decide_eq_decide.mpr h2]
    simpa using q
end

/-- the limits of a kid that lies on the shelf -/
def LimV (prog : Program) (w : World) (F : Fz) (tb : List (Int × Value)) (b : Bool) (p : Int × Int) (v : Value) : Prop := ∃ d kvs, Fet F tb v (.ref d) ∧ HasD prog w F d kvs ∧ LimF prog w F b kvs p.1 p.2
theorem LimV.mono {prog : Program} {w : World} {F F' : Fz} {tb : List (Int × Value)} {b : Bool} {p : Int × Int} {v : Value} (h : LimV prog w F tb b p v) (l : F.le F') : LimV prog w F' tb b p v := let ⟨d, kvs, x, y, z⟩ := h; ⟨d, kvs, x.mono l, y.mono l, z.mono l⟩
section
variable {prog : Program} {w : World} {A : Around} {P : Params} {s₀ s : Shared} {X : List Addr} {F : Fz} {N : Led} {Q : Value → Shared → Prop} {E : Value → Shared → Prop} {K : Frag}
set_option maxHeartbeats 1000000 in
theorem kid_for_ {sh T l : Addr} {tb : List (Int × Value)} {b : Bool} {wd kv : Value} {r : Int} {vs : List Value} {ls : List (Int × Int)} (S : At (hd.heap_1 P) s₀ X F N s) (hm : Rm A 5) (hs : ShF prog w F sh T tb) (hw : WordV b wd) (hk : RawK b r kv)
    (hl : Has F l (ListO vs)) (hv : Al (LimV prog w F tb b) ls vs) (hz : vs.length ≤ 1000) (hmono : ∀ (i j : Nat) (p q : Int × Int), i ≤ j → ls[i]? = some p → ls[j]? = some q → p.2 ≤ q.2)
    (h : ∀ (i : Nat) t s', i ≤ ls.length → (∀ (j : Nat) (p : Int × Int), j < i → ls[j]? = some p → p.2 < r) → (∀ (j : Nat) (p : Int × Int), i ≤ j → ls[j]? = some p → r ≤ p.2) → At (hd.heap_1 P) s₀ X F N s' → Q (.int i t) s') :
    wpAny (model prog w) A (call (.ref 419) [.ref sh, .ref l, wd, kv]) Q E s := by
  have mk : Mk := .mk
  have hlen := hv.length
  ((refine' enter (U := []) (binds := [(Str.ofString "shelf", Value.ref sh), (Str.ofString "kids", Value.ref l), (Str.ofString "word", wd), (Str.ofString "key", kv)]) ?Sq106 ?hmq106 ?hUq106 ?hUnq106 ?k1q106 ?k2q106 ?k3q106 ?k4q106 ?k5q106 ?bodyq106 ?k6q106 ?k7q106 ?k8q106; (case Sq106 => assumption); (case hmq106 => assumption); (case hUq106 => exact fun _ h => nomatch h); (case hUnq106 => exact List.nodup_nil); (case k1q106 => k_is); (case k2q106 => k_is); (case k3q106 => exact BindsTo.of_eq rfl); (case k4q106 => exact locs rfl); (case k5q106 => decide); (case k6q106 => exact rfl); (case k7q106 => exact rfl); (case k8q106 => exact rfl)))
  intro L s' hL S' hm'
  (repeat cell_call)
  refine lenL (by assumption) (.inr hl) (by lia) ?_
  intro _ _ _
  (repeat cell_call)
  refine whileF (fun k s₁ => ∃ (lo hi : Nat) (m : Str → Option Value), At (hd.heap_1 P) s [] F [(L, NsO m)] s₁ ∧ lo ≤ hi ∧ hi ≤ ls.length ∧ k = hi - lo ∧ (∀ (j : Nat) (p : Int × Int), j < lo → ls[j]? = some p → p.2 < r) ∧ (∀ (j : Nat) (p : Int × Int), hi ≤ j → ls[j]? = some p → r ≤ p.2) ∧
    m (Str.ofString "shelf") = some (.ref sh) ∧ m (Str.ofString "kids") = some (.ref l) ∧ m (Str.ofString "word") = some wd ∧ m (Str.ofString "key") = some kv ∧ (∃ t, m (Str.ofString "low") = some (.int lo t)) ∧ (∃ t, m (Str.ofString "high") = some (.int hi t))) ?_ ls.length ?_
  · rintro k s₁ ⟨lo, hi, m, S₁, h1, h2, rfl, h3, h4, m1, m2, m3, m4, ⟨t5, m5⟩, ⟨t6, m6⟩⟩
    (repeat cell_call)
    by_cases hlt : lo < hi
    · refine ltT (by lia) ?_
      (repeat cell_call)
      refine addI (by assumption) ?_
      intro _ _ _
      (repeat cell_call)
      refine fdivI (by assumption) (by decide) (by decide) ?_
      intro _ _ _
      (repeat cell_call)
      have hhalf : ((lo : Int) + hi) / 2 = (((lo + hi) / 2 : Nat) : Int) := by lia
      obtain ⟨p, hp⟩ : ∃ p, ls[(lo + hi) / 2]? = some p := ⟨_, List.getElem?_eq_getElem (by lia)⟩
      obtain ⟨v, hx, d, kvs, y1, y2, y3⟩ := hv.get hp
      refine subL (by assumption) (.inr hl) (by lia) (by lia) (by rw [hhalf, Int.toNat_natCast]; exact hx) ?_ rfl
      (repeat cell_call)
      refine node_of_ (by assumption) (hm'.mono (by decide)) hs y2 y1 fun s₂ S₂ => ?_
      (repeat cell_call)
      refine node_limits_ (by assumption) hm' hs y2 hw y3 fun a k1 k2 s₃ ha hk1 hk2 S₃ => ?_
      (repeat cell_call)
      refine subT (by assumption) (.inl (.head _)) (by decide) (by decide) rfl ?_ rfl
      (repeat cell_call)
      have S₄ := At.tail (by assumption)
      (repeat cell_call)
      refine ltK hk2 hk ?_
      by_cases c : p.2 < r
      · rw [decide_eq_true c]
        (repeat cell_call)
        refine addI (by assumption) ?_
        intro _ _ _
        (repeat cell_call)
        rename At _ _ _ _ _ _ => S9
        refine ⟨hi - ((lo + hi) / 2 + 1), by lia, (lo + hi) / 2 + 1, hi, _, S9, by lia, h2, rfl, fun j q hj hq => ?_, h4, m1, m2, m3, m4, ?_, ⟨t6, m6⟩⟩
        · have := hmono j ((lo + hi) / 2) q p (by lia) hq hp; lia
        · rw [hhalf]; exact ⟨_, rfl⟩
      · rw [decide_eq_false c]
        (repeat cell_call)
        rename At _ _ _ _ _ _ => S9
        refine ⟨(lo + hi) / 2 - lo, by lia, lo, (lo + hi) / 2, _, S9, by lia, by lia, rfl, h3, fun j q hj hq => ?_, m1, m2, m3, m4, ⟨t5, m5⟩, ?_⟩
        · have := hmono ((lo + hi) / 2) j p q hj hp hq; lia
        · rw [← hhalf]; exact ⟨_, rfl⟩
    · refine ltF (by lia) ?_
      (repeat cell_call)
      obtain rfl : lo = hi := by lia
      exact h lo t5 _ h2 h3 h4 (S.ret0 (by assumption))
  · rename At _ _ _ _ _ _ => S9
    refine ⟨0, ls.length, _, S9, Nat.zero_le _, Nat.le_refl _, rfl, fun _ _ h => absurd h (Nat.not_lt_zero _), fun j p hj hp => ?_, ?_, ?_, ?_, ?_, ?_, ?_⟩
    · rw [List.getElem?_eq_none hj] at hp; cases hp
    · rfl
    · rfl
    · rfl
    · rfl
    · exact ⟨_, rfl⟩
    · rw [hlen]; exact ⟨_, rfl⟩
end

-- C5
def Tr : Nat → Type
  | 0 => List Nat
  | h + 1 => List (Tr h)
def flat : (h : Nat) → Tr h → List Nat
  | 0, ns => (ns : List Nat)
  | h + 1, ks => (List.map (flat h) (ks : List (Tr h))).flatten
def tsize : (h : Nat) → Tr h → Nat
  | 0, _ => 1
  | h + 1, ks => 1 + ((ks : List (Tr h)).map (tsize h)).sum
abbrev kS : Str := Str.ofString "Kids"
structure KidS (prog : Program) (w : World) (F : Fz) (tb : List (Int × Value)) (b : Bool) (m : Int) (v : Value) (k : Int) (e d : Addr) (t0 : Tok) (kvs' : List (Str × Value)) (r1 r2 : Nat) (ns : List Nat) (B : Prop) : Prop where
  a1 : 0 < k
  a2 : k < m
  a3 : RefF F v k
  a4 : valueAt tb k = some (.ref e)
  a5 : Has F e (TupO [.int 0 t0, .ref d])
  a6 : HasD prog w F d kvs'
  a7 : ns.head? = some r1
  a8 : ns.getLast? = some r2
  a9 : LimF prog w F b kvs' (3 * (r1 : Int)) (3 * (r2 : Int))
  a10 : B
/-- what a node's dict says of the tree t, its kids' numbers below m -/
def Body (prog : Program) (w : World) (F : Fz) (tb : List (Int × Value)) (b : Bool) (dead : List Nat → Prop) : (h : Nat) → Int → Tr h → List (Str × Value) → Prop
  | 0, _, ns, kvs => valueAt kvs kS = none ∧ (dead ns ∨ ∃ l xs, valueAt kvs (wordS b) = some (.ref l) ∧ Has F l (ListO xs) ∧ RowF F b ns xs)
  | h + 1, m, ks, kvs => ∃ l vs, valueAt kvs kS = some (.ref l) ∧ Has F l (ListO vs) ∧ Al (fun (t : Tr h) v => ∃ k e d t0 kvs' r1 r2, KidS prog w F tb b m v k e d t0 kvs' r1 r2 (flat h t) (Body prog w F tb b dead h k t kvs')) (ks : List (Tr h)) vs
def KidV (prog : Program) (w : World) (F : Fz) (tb : List (Int × Value)) (b : Bool) (dead : List Nat → Prop) (h : Nat) (m : Int) (t : Tr h) (v : Value) : Prop :=
  ∃ k e d t0 kvs' r1 r2, KidS prog w F tb b m v k e d t0 kvs' r1 r2 (flat h t) (Body prog w F tb b dead h k t kvs')
section
variable {prog : Program} {w : World} {F F' : Fz} {tb tb' : List (Int × Value)} {b : Bool} {dead : List Nat → Prop}
theorem Body.mono (l : F.le F') (ht : ∀ k v, valueAt tb k = some v → valueAt tb' k = some v) : ∀ {h : Nat} {m m' : Int} {t : Tr h} {kvs : List (Str × Value)}, m ≤ m' → Body prog w F tb b dead h m t kvs → Body prog w F' tb' b dead h m' t kvs
  | 0, _, _, _, _, _, ⟨a, q⟩ => ⟨a, q.imp id fun ⟨l', xs, x, y, z⟩ => ⟨l', xs, x, y.mono l, z.mono l⟩⟩
  | h + 1, _, _, _, _, hm, ⟨l', vs, x, y, z⟩ => ⟨l', vs, x, y.mono l, z.mono fun t v ⟨k, e, d, t0, kvs', r1, r2, a1, a2, a3, a4, a5, a6, a7, a8, a9, a10⟩ => ⟨k, e, d, t0, kvs', r1, r2, a1, by omega, a3.mono l, ht _ _ a4, a5.mono l, a6.mono l, a7, a8, a9.mono l, a10.mono l ht (Int.le_refl _)⟩⟩
theorem KidV.mono (l : F.le F') (ht : ∀ k v, valueAt tb k = some v → valueAt tb' k = some v) {h : Nat} {m m' : Int} {t : Tr h} {v : Value} (hm : m ≤ m') (x : KidV prog w F tb b dead h m t v) : KidV prog w F' tb' b dead h m' t v :=
  let ⟨k, e, d, t0, kvs', r1, r2, a1, a2, a3, a4, a5, a6, a7, a8, a9, a10⟩ := x
  ⟨k, e, d, t0, kvs', r1, r2, a1, by omega, a3.mono l, ht _ _ a4, a5.mono l, a6.mono l, a7, a8, a9.mono l, a10.mono l ht (Int.le_refl _)⟩
theorem Fet.ofRef {v : Value} {k : Int} {e d : Addr} {t0 : Tok} {kvs : List (Str × Value)} (a : RefF F v k) (h : valueAt tb k = some (.ref e)) (q : Has F e (TupO [.int 0 t0, .ref d])) (r : HasD prog w F d kvs) : Fet F tb v (.ref d) := ⟨r.notRef, .inr ⟨k, e, t0, a, h, q⟩⟩
/-- a turn still to come: the value v with the way wy -/
structure EntV (prog : Program) (w : World) (F : Fz) (tb : List (Int × Value)) (b : Bool) (dead : List Nat → Prop) (p : Σ h, Tr h) (v : Value) (wy : Addr) (m : Int) (n : Nat) (d : Addr) (kvs : List (Str × Value)) (m' : Int) : Prop where
  way : WayF F m n wy
  deep : n + p.1 ≤ 40
  fet : Fet F tb v (.ref d)
  dict : HasD prog w F d kvs
  body : Body prog w F tb b dead p.1 m' p.2 kvs
  kind : (NotRef F v ∧ m' = m) ∨ (RefF F v m' ∧ 0 < m' ∧ m' < m)
  alive : ∀ ns : List Nat, p = ⟨0, ns⟩ → ¬ dead ns
theorem EntV.mono {p : Σ h, Tr h} {v : Value} {wy d : Addr} {m m' : Int} {n : Nat} {kvs : List (Str × Value)} (x : EntV prog w F tb b dead p v wy m n d kvs m') (l : F.le F') : EntV prog w F' tb b dead p v wy m n d kvs m' :=
  ⟨x.way.mono l (Int.le_refl _), x.deep, x.fet.mono l, x.dict.mono l, x.body.mono l (fun _ _ h => h) (Int.le_refl _), x.kind.imp (fun a => ⟨a.1.mono l, a.2⟩) (fun a => ⟨a.1.mono l, a.2⟩), x.alive⟩
def EntF (prog : Program) (w : World) (F : Fz) (tb : List (Int × Value)) (b : Bool) (dead : List Nat → Prop) (p : Σ h, Tr h) (u : Value) : Prop :=
  ∃ a v wy m n d kvs m', u = .ref a ∧ Has F a (TupO [v, .ref wy]) ∧ EntV prog w F tb b dead p v wy m n d kvs m'
theorem EntF.mono {p : Σ h, Tr h} {u : Value} (x : EntF prog w F tb b dead p u) (l : F.le F') : EntF prog w F' tb b dead p u :=
  let ⟨a, v, wy, m, n, d, kvs, m', e, q, r⟩ := x; ⟨a, v, wy, m, n, d, kvs, m', e, q.mono l, r.mono l⟩
end

-- C6
abbrev Srt (ns : List Nat) : Prop := ns.Pairwise (· < ·)
theorem le_last {ns : List Nat} {r x : Nat} (h : Srt ns) (hr : ns.getLast? = some r) (hx : x ∈ ns) : x ≤ r := by
  obtain ⟨ys, rfl⟩ := List.getLast?_eq_some_iff.mp hr
  rcases List.mem_append.mp hx with hx | hx
  · exact Nat.le_of_lt ((List.pairwise_append.mp h).2.2 x hx r (by simp))
  · simp at hx; omega
theorem head_le {ns : List Nat} {r x : Nat} (h : Srt ns) (hr : ns.head? = some r) (hx : x ∈ ns) : r ≤ x := by
  cases ns with
  | nil => cases hr
  | cons y ys =>
    cases hr
    rcases List.mem_cons.mp hx with rfl | hx
    · exact Nat.le_refl _
    · exact Nat.le_of_lt ((List.pairwise_cons.mp h).1 x hx)
theorem last_mem {ns : List Nat} {r : Nat} (hr : ns.getLast? = some r) : r ∈ ns := List.mem_of_getLast? hr
theorem head_mem {ns : List Nat} {r : Nat} (hr : ns.head? = some r) : r ∈ ns := List.mem_of_head? hr
def flt (lo hi : Int) (ns : List Nat) : List Nat := ns.filter fun n => decide (lo ≤ 3 * (n : Int)) && decide (3 * (n : Int) ≤ hi)
theorem flt_append {lo hi : Int} (a b : List Nat) : flt lo hi (a ++ b) = flt lo hi a ++ flt lo hi b := List.filter_append ..
theorem flt_nil {lo hi : Int} {ns : List Nat} (h : ∀ n ∈ ns, 3 * (n : Int) < lo ∨ hi < 3 * (n : Int)) : flt lo hi ns = [] := by
  unfold flt
  rw [List.filter_eq_nil_iff]
  intro n hn
  have := h n hn
  simp only [Bool.and_eq_true, decide_eq_true_eq]
  omega
theorem flt_flatten {lo hi : Int} (L : List (List Nat)) : flt lo hi L.flatten = (L.map (flt lo hi)).flatten := by
  induction L with
  | nil => rfl
  | cons a L ih => rw [List.flatten_cons, flt_append, ih]; rfl
theorem flt_len {lo hi : Int} (ns : List Nat) : (flt lo hi ns).length ≤ ns.length := List.length_filter_le ..
theorem tsize_pos : ∀ (h : Nat) (t : Tr h), 1 ≤ tsize h t
  | 0, _ => Nat.le_refl _
  | h + 1, ks => by unfold tsize; omega
theorem mem_sum_le {α : Type} {f : α → Nat} : ∀ {l : List α} {x : α}, x ∈ l → f x ≤ (l.map f).sum
  | y :: l, x, h => by
    rw [List.map_cons, List.sum_cons]
    rcases List.mem_cons.mp h with rfl | h
    · omega
    · have := mem_sum_le (f := f) h; omega
theorem len_le_sum {α : Type} {f : α → Nat} (hf : ∀ x, 1 ≤ f x) : ∀ (l : List α), l.length ≤ (l.map f).sum
  | [] => by simp
  | x :: l => by rw [List.map_cons, List.sum_cons, List.length_cons]; have := len_le_sum hf l; have := hf x; omega
theorem flat_len_le {h : Nat} {ks : List (Tr h)} {t : Tr h} (ht : t ∈ ks) : (flat h t).length ≤ (flat (h + 1) ks).length := by
  show _ ≤ (List.map (flat h) ks).flatten.length
  rw [List.length_flatten]
  rw [List.map_map]
  exact mem_sum_le (f := fun t => (flat h t).length) ht
theorem srt_kid {h : Nat} {ks : List (Tr h)} (hs : Srt (flat (h + 1) ks)) {t : Tr h} (ht : t ∈ ks) : Srt (flat h t) :=
  (List.pairwise_flatten.mp (show Srt (List.map (flat h) ks).flatten from hs)).1 _ (List.mem_map_of_mem ht)
theorem srt_cross {h : Nat} {ks : List (Tr h)} (hs : Srt (flat (h + 1) ks)) {i j : Nat} {t u : Tr h} (hij : i < j) (hi : ks[i]? = some t) (hj : ks[j]? = some u) {x y : Nat} (hx : x ∈ flat h t) (hy : y ∈ flat h u) : x < y := by
  have h1 := (List.pairwise_flatten.mp (show Srt (List.map (flat h) ks).flatten from hs)).2
  rw [List.pairwise_map] at h1
  obtain ⟨hi', rfl⟩ := List.getElem?_eq_some_iff.mp hi
  obtain ⟨hj', rfl⟩ := List.getElem?_eq_some_iff.mp hj
  exact (List.pairwise_iff_getElem.mp h1) i j hi' hj' hij x hx y hy
/-- a node's span is that of the kids between the two places -/
theorem flt_node {h : Nat} {ks : List (Tr h)} {lo hi : Int} {i j : Nat} (hs : Srt (flat (h + 1) ks)) (hij : i ≤ j)
    (h1 : ∀ (k : Nat) (t : Tr h), k < i → ks[k]? = some t → ∀ x ∈ flat h t, 3 * (x : Int) < lo) (h2 : ∀ (k : Nat) (t : Tr h), j ≤ k → ks[k]? = some t → ∀ x ∈ flat h t, hi < 3 * (x : Int)) :
    flt lo hi (flat (h + 1) ks) = (((ks.drop i).take (j - i)).map fun t => flt lo hi (flat h t)).flatten := by
  have e : ks = ks.take i ++ ((ks.drop i).take (j - i) ++ ks.drop j) := by
    have e1 : (ks.drop i).take (j - i) ++ ks.drop j = ks.drop i := by
      have := List.take_append_drop (j - i) (ks.drop i)
      rw [List.drop_drop, show i + (j - i) = j from by omega] at this
      exact this
    rw [e1, List.take_append_drop]
  show flt lo hi (List.map (flat h) ks).flatten = _
  conv => lhs; rw [e]
  rw [List.map_append, List.map_append, List.flatten_append, List.flatten_append, flt_append, flt_append]
  rw [flt_nil (ns := (List.map (flat h) (ks.take i)).flatten), flt_nil (ns := (List.map (flat h) (ks.drop j)).flatten), List.nil_append, List.append_nil, flt_flatten, List.map_map]
  · rfl
  · intro n hn
    obtain ⟨l, hl, hn⟩ := List.mem_flatten.mp hn
    obtain ⟨t, ht, rfl⟩ := List.mem_map.mp hl
    obtain ⟨k, hk⟩ := List.mem_iff_getElem?.mp ht
    rw [List.getElem?_drop] at hk
    exact .inr (h2 _ t (by omega) hk n hn)
  · intro n hn
    obtain ⟨l, hl, hn⟩ := List.mem_flatten.mp hn
    obtain ⟨t, ht, rfl⟩ := List.mem_map.mp hl
    obtain ⟨k, hk⟩ := List.mem_iff_getElem?.mp ht
    rw [List.getElem?_take] at hk
    split at hk
    · exact .inl (h1 _ t (by omega) hk n hn)
    · cases hk

-- C7
theorem Al.mapL {α β γ : Type} {R : α → β → Prop} {R' : γ → β → Prop} {f : α → γ} {xs : List α} {ys : List β} (h : Al R xs ys) (k : ∀ x y, R x y → R' (f x) y) : Al R' (xs.map f) ys := by
  induction h with
  | nil => exact .nil
  | cons a _ ih => exact .cons (k _ _ a) ih
def lim (h : Nat) (t : Tr h) : Int × Int := (3 * (((flat h t).head?.getD 0 : Nat) : Int), 3 * (((flat h t).getLast?.getD 0 : Nat) : Int))
theorem KidV.lim {prog : Program} {w : World} {F : Fz} {tb : List (Int × Value)} {b : Bool} {dead : List Nat → Prop} {h : Nat} {m : Int} {t : Tr h} {v : Value} (x : KidV prog w F tb b dead h m t v) : LimV prog w F tb b (lim h t) v := by
  obtain ⟨k, e, d, t0, kvs', r1, r2, a1, a2, a3, a4, a5, a6, a7, a8, a9, a10⟩ := x
  refine ⟨d, kvs', Fet.ofRef a3 a4 a5 a6, a6, ?_⟩
  unfold Mine.lim
  rw [a7, a8]
  exact a9
abbrev slc {h : Nat} (ks : List (Tr h)) (i j : Nat) : List (Σ h, Tr h) := ((ks.drop i).take (j - i)).map fun t => (⟨h, t⟩ : Σ h, Tr h)
theorem slc_succ {h : Nat} {ks : List (Tr h)} {i j : Nat} {t : Tr h} (hij : i ≤ j) (hj : ks[j]? = some t) : slc ks i (j + 1) = slc ks i j ++ [⟨h, t⟩] := by
  unfold slc
  rw [show j + 1 - i = (j - i) + 1 from by lia, take_snoc (x := t), List.map_append]
  · rfl
  · rw [List.getElem?_drop, show i + (j - i) = j from by lia]; exact hj
theorem sum_sub {l l' : List Nat} (h : l.Sublist l') : l.sum ≤ l'.sum := by
  induction h with
  | slnil => exact Nat.le_refl _
  | cons a _ ih => rw [List.sum_cons]; lia
  | cons_cons a _ ih => rw [List.sum_cons, List.sum_cons]; lia
theorem slc_sum {h : Nat} {ks : List (Tr h)} {i j : Nat} : ((slc ks i j).map fun p : (Σ h, Tr h) => tsize p.1 p.2).sum ≤ (ks.map (tsize h)).sum := by
  unfold slc
  rw [List.map_map]
  have hsub : ((ks.drop i).take (j - i)).Sublist ks := (List.take_sublist _ _).trans (List.drop_sublist _ _)
  have := (hsub.map (tsize h))
  exact sum_sub this
theorem ifs1 {prog : Program} {w : World} {A : Around} {E : Value → Shared → Prop} {s : Shared} {c : Expr} {env : Env} {Q : Bool → Shared → Prop} (h : wpAny (model prog w) A (isTrue c env (eval c env)) Q E s) :
    wpAny (model prog w) A (forIn [c] true fun c r => if r = true then do let ok ← isTrue c env (eval c env); pure (ForInStep.yield ok) else pure (ForInStep.yield r)) Q E s := by
  rw [List.forIn_cons]
  simp only [if_true, List.forIn_nil]
  exact wpAny_bind (wpAny_bind (wpAny_mono h (fun b s₁ h₁ => wpAny_pure (wpAny_pure h₁)) fun _ _ e => e))
theorem filter_take_succ {α : Type} {p : α → Bool} {xs : List α} {i : Nat} {x : α} (h : xs[i]? = some x) : (xs.take (i + 1)).filter p = if p x = true then (xs.take i).filter p ++ [x] else (xs.take i).filter p := by
  rw [take_snoc h, List.filter_append]
  by_cases c : p x = true
  · simp [c]
  · simp [c]
theorem perm_up {α : Type _} : ∀ (l : List α) (i : Nat) (p : α), l[i]? = some p → (p :: l.eraseIdx i).Perm l
  | [], i, p, h => by simp at h
  | x :: l, 0, p, h => by simp at h; subst h; exact .refl _
  | x :: l, i + 1, p, h => by
    simp only [List.getElem?_cons_succ] at h
    exact (List.Perm.swap x p (l.eraseIdx i)).trans ((perm_up l i p h).cons x)
theorem At.up {K : Frag} {s₀ s : Shared} {X : List Addr} {F : Fz} {N : Led} {p : Addr × OP} (S : At K s₀ X F N s) (i : Nat) (h : N[i]? = some p) : At K s₀ X F (p :: N.eraseIdx i) s := by
  exact S.perm (perm_up _ _ _ h)
theorem Al.unsnoc {α β : Type} {R : α → β → Prop} {xs : List α} {ys : List β} {y : β} (h : Al R xs (ys ++ [y])) : ∃ xs' x, xs = xs' ++ [x] ∧ Al R xs' ys ∧ R x y := by
  have hr := h.reverse
  rw [List.reverse_append] at hr
  generalize hz : xs.reverse = zs at hr
  cases hr with
  | cons a b =>
    refine ⟨_, _, ?_, by simpa using b.reverse, a⟩
    have := congrArg List.reverse hz
    simpa using this
section
variable {prog : Program} {w : World} {A : Around} {P : Params} {s₀ s : Shared} {X : List Addr} {F : Fz} {N : Led} {Q : Value → Shared → Prop} {E : Value → Shared → Prop} {K : Frag}
theorem longer_way_ {wy : Addr} {v : Value} {m m' : Int} {n : Nat} (S : At (hd.heap_1 P) s₀ X F N s) (hm : Rm A 1) (hk : (NotRef F v ∧ m' = m) ∨ (RefF F v m' ∧ 0 < m' ∧ m' < m)) (hw : WayF F m n wy) (hn : n ≤ 40)
    (h : ∀ a F' s', Grow s.heap.objs.size F F' → WayF F' m' (n + 1) a → At (hd.heap_1 P) s₀ X F' N s' → Q (.ref a) s') : wpAny (model prog w) A (call (.ref 412) [.ref wy, v]) Q E s := by
  rcases hk with ⟨hv, rfl⟩ | ⟨hv, h1, h2⟩
  · exact longer_way_root S hm hv hw hn h
  · exact longer_way_ref S hm hv h1 h2 hw hn h
end
section
variable {prog : Program} {w : World} {A : Around} {P : Params} {s₀ s : Shared} {X : List Addr} {F : Fz} {N : Led} {Q : Value → Shared → Prop} {E : Value → Shared → Prop} {K : Frag}
set_option maxHeartbeats 2000000 in
theorem tree_span_ {sh T d : Addr} {tb : List (Int × Value)} {b : Bool} {tw : Tok} {lo hi : Int} {lov hiv v : Value} {h : Nat} {t : Tr h} {m : Int} {kvs : List (Str × Value)} {dead : List Nat → Prop}
    (S : At (hd.heap_1 P) s₀ X F N s) (hm : Rm A 6) (hs : ShF prog w F sh T tb) (hlo : RawK b lo lov) (hhi : RawK b hi hiv) (hv : NotRef F v) (hf : Fet F tb v (.ref d)) (hdd : HasD prog w F d kvs) (hb : Body prog w F tb b dead h m t kvs)
    (hal : ∀ ns : List Nat, (⟨h, t⟩ : Σ h, Tr h) = ⟨0, ns⟩ → ¬ dead ns) (hsrt : Srt (flat h t)) (hh : h ≤ 40) (hsz : tsize h t ≤ 1000) (hfl : (flat h t).length ≤ 1000)
    (hdead : ∀ (ns : List Nat) (r1 r2 : Nat), dead ns → ns.head? = some r1 → ns.getLast? = some r2 → 3 * (r2 : Int) < lo ∨ hi < 3 * (r1 : Int))
    (hq : ∀ a F' ps s', s₀.heap.objs.size ≤ a → Grow s.heap.objs.size F F' → Al (PairF F' b) (flt lo hi (flat h t)) ps → At (hd.heap_1 P) s₀ X F' ((a, ListO ps) :: N) s' → Q (.ref a) s') :
    wpAny (model prog w) A (call (.ref 424) [.ref sh, v, .str (wordS b) tw, lov, hiv]) Q E s := by
  have mk : Mk := .mk
  ((refine' enterC (U := []) (binds := [(Str.ofString "shelf", Value.ref sh), (Str.ofString "root", v), (Str.ofString "word", Value.str (wordS b) tw), (Str.ofString "low", lov), (Str.ofString "high", hiv)]) (cs := (fun L => [(L + 1 + 1, some hiv), (L + 1, some lov)])) ?Sq122 ?hmq122 ?hUq122 ?hUnq122 ?k1q122 ?k2q122 ?k3q122 ?k4q122 ?k5q122 ?k9q122 ?bodyq122 ?k6q122 ?k7q122 ?k8q122; (case Sq122 => assumption); (case hmq122 => assumption); (case hUq122 => first | exact fun _ h => nomatch h | skip); (case hUnq122 => first | exact List.nodup_nil | skip); (case k1q122 => k_is); (case k2q122 => k_is); (case k3q122 => exact BindsTo.of_eq rfl); (case k4q122 => exact rfl); (case k5q122 => decide); (case k9q122 => (intro _; exact rfl)); (case k6q122 => exact rfl); (case k7q122 => exact rfl); (case k8q122 => exact rfl)))
  intro L s' hL S' hm'
  (repeat cell_call)
  refine mkList (by assumption) (by (exact small_sizeLine (by simp))) fun fl s₁ hfl' S₁ => ?_
  have S₁ := S₁.swap
  (repeat cell_call)
  refine mkTup (by assumption) (by (exact small_sizeLine (by simp))) fun e0 s₂ he0 S₂ => ?_
  obtain ⟨o0, po0, hf0, gr0, S₂⟩ := S₂.freeze he0
  (repeat cell_call)
  refine mkTup (by assumption) (by (exact small_sizeLine (by simp))) fun e1 s₃ he1 S₃ => ?_
  obtain ⟨o1, po1, hf1, gr1, S₃⟩ := S₃.freeze he1
  (repeat cell_call)
  refine mkList (by assumption) (by (exact small_sizeLine (by simp))) fun ll s₄ hll S₄ => ?_
  have S₄ := S₄.swap
  (repeat cell_call)
  rename At _ _ _ _ _ _ => S5
  obtain ⟨I, hI⟩ : ∃ I : Nat → Shared → Prop, ∀ k s₁, I k s₁ ↔ (∃ (F' : Fz) (fs es : List Value) (fns : List Nat) (ps : List (Σ h, Tr h)) (m : Str → Option Value), At (hd.heap_1 P) s [] F' [(L, NsO m), (ll, ListO es), (fl, ListO fs), (L + 1 + 1, CellO (some hiv)), (L + 1, CellO (some lov))] s₁ ∧ Grow s.heap.objs.size F F' ∧
    m (Str.ofString "shelf") = some (.ref sh) ∧ m (Str.ofString "word") = some (.str (wordS b) tw) ∧ m (Str.ofString "found") = some (.ref fl) ∧ m (Str.ofString "line") = some (.ref ll) ∧
    Al (PairF F' b) fns fs ∧ Al (EntF prog w F' tb b dead) ps es ∧ fns ++ (ps.reverse.map fun p => flt lo hi (flat p.1 p.2)).flatten = flt lo hi (flat h t) ∧ k = (ps.map fun p => tsize p.1 p.2).sum ∧ k ≤ 1000 ∧ (∀ p ∈ ps, Srt (flat p.1 p.2) ∧ (flat p.1 p.2).length ≤ 1000)) := ⟨_, fun _ _ => Iff.rfl⟩
  refine whileF I ?_ (tsize h t) ?_
  · intro k s₁ hIk
    obtain ⟨F1, fs, es, fns, ps, mm, S₁, g1, m1, m2, m3, m4, hfs, hes, heq, rfl, hk, hps⟩ := (hI k s₁).mp hIk
    have hpl : ps.length ≤ 1000 := Nat.le_trans (len_le_sum (f := fun p : (Σ h, Tr h) => tsize p.1 p.2) (fun p => tsize_pos _ _) ps) hk
    have hel := hes.length
    have hfnl : fns.length ≤ 1000 := by
      have := congrArg List.length heq
      rw [List.length_append] at this
      have := flt_len (lo := lo) (hi := hi) (flat h t)
      lia
    have hfsl := hfs.length
    clear S₂ S₃ S₄ S5
    (repeat cell_call)
    refine lenL (by assumption) (.inl (by ((repeat (first | exact List.Mem.head _ | refine List.Mem.tail _ ?_))))) (by lia) ?_
    intro _ _ _
    (repeat cell_call)
    rcases List.eq_nil_or_concat es with rfl | ⟨es', u, rfl⟩
    · refine gtF (by simp) ?_
      (repeat cell_call)
      cases hes
      rename At _ _ _ _ _ _ => S6
      refine hq fl F1 fs _ (Nat.le_trans S.size hfl') g1 ?_ (At.back (U := []) (R := [(fl, ListO fs)]) S S6 g1 (by simp) (by simp) (by simp))
      rw [← heq]
      simpa using hfs
    · rw [List.concat_eq_append] at *
      obtain ⟨ps', p, rfl, hes', a, v1, wy, m1', n, d1, kvs1, m2', rfl, hpa, hent⟩ := hes.unsnoc
      refine gtT (by simp) ?_
      (repeat cell_call)
      ((refine Assign_Tuple ?_ ?hsq137 ?hwq137; (case hsq137 => exact rfl); (case hwq137 => exact rfl)))
      (repeat cell_call)
      refine methL PySem.F.slot_list_pop (by kernel_rfl) (by assumption) (.inl (by ((repeat (first | exact List.Mem.head _ | refine List.Mem.tail _ ?_))))) ?_
      (repeat cell_call)
      refine popL (i := 1) (by assumption) rfl (by simp at hel hpl; lia) ?_
      intro s7 S7
      simp only [List.set_cons_zero, List.set_cons_succ] at S7
      refine unpackT hm'.h S7 (.inr hpa) ⟨_, .head _, hL⟩ rfl rfl ?_
      intro _ _
      ((refine wpAny_assignInOrder_more ?_; refine wpAny_assign_Name ?_; (refine' stL ?Sq141 ?_ ?aq141 ?bq141; (case Sq141 => assumption); (case aq141 => exact rfl); (case bq141 => exact rfl); intro _ _)))
      ((refine wpAny_assignInOrder_more ?_; refine wpAny_assign_Name ?_; (refine' stL ?Sq142 ?_ ?aq142 ?bq142; (case Sq142 => assumption); (case aq142 => exact rfl); (case bq142 => exact rfl); intro _ _)))
      ((refine wpAny_assignInOrder_none ?_))
      (repeat cell_call)
      refine longer_way_ (by assumption) (hm'.mono (by decide)) hent.kind hent.way (by have := hent.deep; lia) fun wy' F2 s8 g2 hw2 S8 => ?_
      have g12 := g1.trans (g2.mono (At.size (by assumption))) (Nat.le_refl _)
      have hent := hent.mono g2.1
      (repeat cell_call)
      refine node_of_ (by assumption) (hm'.mono (by decide)) (hs.mono g12.1) hent.dict hent.fet fun s9 S9 => ?_
      (repeat cell_call)
      refine inDS (by assumption) (.inr hent.dict.h) (nosys hent.dict.n) ?_
      intro _ _
      obtain ⟨h1, tt⟩ := p
      have hbody := hent.body
      cases h1 with
      | zero =>
        obtain ⟨hk0, hrow⟩ := hbody
        rw [hk0]
        dsimp only [Option.isSome_some, Option.isSome_none]
        (repeat cell_call)
        refine methL PySem.F.slot_list_extend (by kernel_rfl) (by assumption) (.inl (by ((repeat (first | exact List.Mem.head _ | refine List.Mem.tail _ ?_))))) ?_
        (repeat cell_call)
        refine compE0 (K := hd.heap_1 P) (X := []) (s₀ := s) (by exact rfl) (by decide) rfl (by decide) (by exact rfl) ?_
        (repeat cell_call)
        rcases hrow with hdd0 | ⟨l0, xs0, hl1, hl2, hl3⟩
        · exact absurd hdd0 (hent.alive tt rfl)
        have hns := hps ⟨0, tt⟩ (by simp)
        refine node_pairs_ (by assumption) (hm'.mono (by decide)) (hs.mono g12.1) hent.dict hl1 hl2 hl3 hns.2 fun pl F3 qs s10 hpl' g3 hqs S10 => ?_
        have g3 := g3.mono (n := s.heap.objs.size) (At.size (by assumption))
        refine iterL S10 (.inl (.head _)) fun it s11 hit S11 => ?_
        have hqsl := hqs.length
        refine ⟨it, _, qs.length, _, _, F3, _, fun i F' ys => F' = F3 ∧ Al (PairF F3 b) (flt lo hi (List.take i tt)) ys, rfl, srcL (xs := qs) hm'.h hit, small_sizeLine (by have := hns.2; show qs.length ≤ 100000; rw [← hqsl]; exact Nat.le_trans this (by decide)), S11, ⟨rfl, .nil⟩, fun i F' ys N' hI hN => .inl (hN _ (.head _)), ?_, ?_⟩
        · rintro i F' ys u mc C acc s12 hii hu ⟨rfl, hys⟩ S12
          obtain ⟨x, hx, hxp⟩ := hqs.get' hu
          have hxp' := hxp
          obtain ⟨pa, pk, pt, rfl, hpt, hpk⟩ := hxp'
          refine ifs1 ?_
          have ef : flt lo hi (List.take (i + 1) tt) = if (decide (lo ≤ 3 * (x : Int)) && decide (3 * (x : Int) ≤ hi)) = true then flt lo hi (List.take i tt) ++ [x] else flt lo hi (List.take i tt) := filter_take_succ hx
          (repeat cell_call)
          refine test_link ?_
          (repeat cell_call)
          refine subT (by assumption) (.inr hpt) (by decide) (by decide) rfl ?_ rfl
          refine leK hlo hpk ?_
          by_cases c1 : lo ≤ 3 * (x : Int)
          · rw [decide_eq_true c1] at ef ⊢
            (repeat cell_call)
            refine test_last ?_
            (repeat cell_call)
            refine leK hpk hhi ?_
            by_cases c2 : 3 * (x : Int) ≤ hi
            · rw [decide_eq_true c2] at ef ⊢
              (repeat cell_call)
              refine ⟨F', _, ⟨rfl, ?_⟩, by assumption⟩
              rw [ef]
              exact hys.snoc hxp
            · rw [decide_eq_false c2] at ef ⊢
              (repeat cell_call)
              refine ⟨F', _, ⟨rfl, ?_⟩, by assumption⟩
              rw [ef]
              exact hys
          · rw [decide_eq_false c1] at ef ⊢
            (repeat cell_call)
            refine ⟨F', _, ⟨rfl, ?_⟩, by assumption⟩
            rw [ef]
            exact hys
        · rintro F' ys acc s12 ⟨rfl, hys⟩ hlen hacc S12
          (repeat cell_call)
          have hys' : Al (PairF F' b) (flt lo hi tt) ys := by
            rw [show List.take qs.length tt = tt from by rw [← hqsl]; exact List.take_length] at hys; exact hys
          have hysl := hys'.length
          refine extendL (i := 4) (xs := fs) (by assumption) rfl (.inl (.head _)) ?_ ?_
          · have : ys.length ≤ 1000 := by rw [← hysl]; exact Nat.le_trans (flt_len _) hns.2
            lia
          intro s13 S13
          simp only [List.set_cons_zero, List.set_cons_succ] at S13
          (repeat cell_call)
          have hsum : ((ps' ++ [(⟨0, tt⟩ : Σ h, Tr h)]).map fun p : (Σ h, Tr h) => tsize p.1 p.2).sum = (ps'.map fun p => tsize p.1 p.2).sum + 1 := by
            rw [List.map_append, List.sum_append]; rfl
          refine ⟨_, ?_, (hI _ _).mpr ⟨F', fs ++ ys, es', fns ++ flt lo hi tt, ps', _, S13.tail.tail, g12.trans g3 (Nat.le_refl _), m1, m2, m3, m4, ?_, ?_, ?_, rfl, ?_, ?_⟩⟩
          · rw [hsum]; lia
          · exact (hfs.mono fun _ _ hp => (hp.mono g2.1).mono g3.1).append hys'
          · exact hes'.mono fun _ _ hp => (hp.mono g2.1).mono g3.1
          · rw [← heq, List.reverse_append]
            simp only [List.reverse_cons, List.reverse_nil, List.nil_append, List.map_append, List.map_cons, List.map_nil, List.flatten_append, List.flatten_cons, List.flatten_nil, List.append_nil, List.append_assoc]
            rfl
          · lia
          · exact fun p hp => hps p (List.mem_append_left _ hp)
      | succ h1 =>
        obtain ⟨kl, vs, hk0, hkl, hkids⟩ := hbody
        rw [hk0]
        dsimp only [Option.isSome_some, Option.isSome_none]
        (repeat cell_call)
        obtain ⟨ks, rfl⟩ : ∃ ks : List (Tr h1), ks = tt := ⟨tt, rfl⟩
        have hsn := hps ⟨h1 + 1, ks⟩ (by simp)
        have hkl' : ks.length = vs.length := hkids.length
        have hls : Al (LimV prog w F2 tb b) (List.map (lim h1) ks) vs := hkids.mapL (f := lim h1) fun _ _ q => KidV.lim q
        have hlim : ∀ (i : Nat) (q : Int × Int), (List.map (lim h1) ks)[i]? = some q → ∃ (u : Tr h1) (r1 r2 : Nat), ks[i]? = some u ∧ q = (3 * (r1 : Int), 3 * (r2 : Int)) ∧ (flat h1 u).head? = some r1 ∧ (flat h1 u).getLast? = some r2 := fun i q hq => by
          rw [List.getElem?_map] at hq
          obtain ⟨u, hu, rfl⟩ := Option.map_eq_some_iff.mp hq
          obtain ⟨y, _, hy⟩ := hkids.get hu
          obtain ⟨k, e, d, t0, kvs', r1, r2, b1, b2, b3, b4, b5, b6, b7, b8, b9, b10⟩ := hy
          exact ⟨u, r1, r2, hu, by unfold lim; rw [b7, b8]; rfl, b7, b8⟩
        have hnsz : ((ps' ++ [(⟨h1 + 1, ks⟩ : Σ h, Tr h)]).map fun p : (Σ h, Tr h) => tsize p.1 p.2).sum = (ps'.map fun p => tsize p.1 p.2).sum + (1 + (ks.map (tsize h1)).sum) := by
          rw [List.map_append, List.sum_append]; simp [tsize]
        have hvl : ks.length ≤ 1000 := by have := len_le_sum (f := tsize h1) (tsize_pos h1) ks; lia
        refine row_of_ (by assumption) (hm'.mono (by decide)) (hs.mono g12.1) hent.dict hk0 hkl ?_
        intro _ _
        (repeat cell_call)
        refine kid_for_ (by assumption) (hm'.mono (by decide)) (hs.mono g12.1) ⟨_, rfl⟩ hlo hkl hls (by rw [← hkl']; exact hvl) ?_ fun i0 ti s10 hi0 hbe haf S10 => ?_
        · intro i j p q hij hp hq
          obtain ⟨u, r1, r2, hu, rfl, _, hr⟩ := hlim i p hp
          obtain ⟨u', r1', r2', hu', rfl, _, hr'⟩ := hlim j q hq
          rcases Nat.lt_or_eq_of_le hij with hlt | rfl
          · have := srt_cross hsn.1 hlt hu hu' (last_mem hr) (last_mem hr')
            show 3 * (r2 : Int) ≤ 3 * (r2' : Int)
            lia
          · rw [hu] at hu'; cases hu'; rw [hr] at hr'; cases hr'; exact Int.le_refl _
        rw [List.length_map] at hi0
        (repeat cell_call)
        refine mkList (by assumption) (by (exact small_sizeLine (by simp))) fun wl s11 hwl S11 => ?_
        have S11 := S11.swap
        (repeat cell_call)
        rename At _ _ _ _ _ _ => S12
        obtain ⟨J, hJ⟩ : ∃ J : Flow → Shared → Prop, ∀ f sx, J f sx ↔ (f = .next ∧ ∃ (j : Nat) (F3 : Fz) (ws : List Value) (m5 : Str → Option Value), At (hd.heap_1 P) s [] F3 [(L, NsO m5), (wl, ListO ws), (ll, ListO es'), (fl, ListO fs), (L + 1 + 1, CellO (some hiv)), (L + 1, CellO (some lov))] sx ∧ Grow s.heap.objs.size F2 F3 ∧ i0 ≤ j ∧ j ≤ ks.length ∧
          Al (EntF prog w F3 tb b dead) (slc ks i0 j) ws ∧ m5 (Str.ofString "shelf") = some (.ref sh) ∧ m5 (Str.ofString "word") = some (.str (wordS b) tw) ∧ m5 (Str.ofString "found") = some (.ref fl) ∧ m5 (Str.ofString "line") = some (.ref ll) ∧ m5 (Str.ofString "wanted") = some (.ref wl) ∧
          (∀ (k : Nat) (u : Tr h1), j ≤ k → ks[k]? = some u → ∀ x ∈ flat h1 u, hi < 3 * (x : Int))) := ⟨_, fun _ _ => Iff.rfl⟩
        refine wpAny_mono (Q := J) ?_ ?_ (fun _ _ f => f)
        · obtain ⟨I2, hI2⟩ : ∃ I : Nat → Shared → Prop, ∀ k sx, I k sx ↔ (∃ (j : Nat) (tj : Tok) (F3 : Fz) (ws : List Value) (m5 : Str → Option Value), At (hd.heap_1 P) s [] F3 [(L, NsO m5), (wl, ListO ws), (ll, ListO es'), (fl, ListO fs), (L + 1 + 1, CellO (some hiv)), (L + 1, CellO (some lov))] sx ∧ Grow s.heap.objs.size F2 F3 ∧ i0 ≤ j ∧ j ≤ ks.length ∧ k = ks.length - j ∧
            Al (EntF prog w F3 tb b dead) (slc ks i0 j) ws ∧ m5 (Str.ofString "shelf") = some (.ref sh) ∧ m5 (Str.ofString "word") = some (.str (wordS b) tw) ∧ m5 (Str.ofString "found") = some (.ref fl) ∧ m5 (Str.ofString "line") = some (.ref ll) ∧ m5 (Str.ofString "wanted") = some (.ref wl) ∧
            m5 (Str.ofString "kids") = some (.ref kl) ∧ m5 (Str.ofString "way") = some (.ref wy') ∧ m5 (Str.ofString "at") = some (.int j tj)) := ⟨_, fun _ _ => Iff.rfl⟩
          refine whileF I2 ?_ (ks.length - i0) ?_
          · clear S11 S12 S10 S8 S9 S7 S₁
            intro k sx hIk
            obtain ⟨j, tj, F3, ws, m5, S13, g3, hij, hjl, rfl, hws, n1, n2, n3, n4, n5, n6, n7, n8⟩ := (hI2 k sx).mp hIk
            have g13 := g12.trans g3 (Nat.le_refl _)
            have hwl2 : ws.length ≤ 1000 := by rw [← hws.length, List.length_map, List.length_take, List.length_drop]; lia
            (repeat cell_call)
            refine lenL (by assumption) (.inr (hkl.mono g3.1)) (by lia) ?_
            intro _ _ _
            (repeat cell_call)
            by_cases hlt : j < ks.length
            · refine ltT (by lia) ?_
              (repeat cell_call)
              obtain ⟨u, hu⟩ : ∃ u, ks[j]? = some u := ⟨_, List.getElem?_eq_getElem hlt⟩
              obtain ⟨kv, hkv, k1, e, dd, t0, kvs', r1, r2, b1, b2, b3, b4, b5, b6, b7, b8, b9, b10⟩ := hkids.get hu
              refine subL (by assumption) (.inr (hkl.mono g3.1)) (by lia) (by lia) (by rw [Int.toNat_natCast]; exact hkv) ?_ rfl
              (repeat cell_call)
              have hfet := Fet.ofRef (b3.mono g3.1) b4 (b5.mono g3.1) (b6.mono g3.1)
              refine node_of_ (by assumption) (hm'.mono (by decide)) (hs.mono g13.1) (b6.mono g3.1) hfet fun s14 S14 => ?_
              (repeat cell_call)
              refine node_limits_ (by assumption) (hm'.mono (by decide)) (hs.mono g13.1) (b6.mono g3.1) ⟨_, rfl⟩ (b9.mono g3.1) fun a5 k5 k6 s15 ha5 hk5 hk6 S15 => ?_
              (repeat cell_call)
              refine subT (by assumption) (.inl (.head _)) (by decide) (by decide) rfl ?_ rfl
              have S16 := At.tail (by assumption)
              (repeat cell_call)
              refine leK hk5 hhi ?_
              by_cases c : 3 * (r1 : Int) ≤ hi
              · rw [decide_eq_true c]
                (repeat cell_call)
                refine methL PySem.F.slot_list_append (by kernel_rfl) (by assumption) (.inl (by ((repeat (first | exact List.Mem.head _ | refine List.Mem.tail _ ?_))))) ?_
                (repeat cell_call)
                refine subL (by assumption) (.inr (hkl.mono g3.1)) (by lia) (by lia) (by rw [Int.toNat_natCast]; exact hkv) ?_ rfl
                (repeat cell_call)
                refine mkTup (by assumption) (by (exact small_sizeLine (by simp))) fun a6 s16 ha6 S17 => ?_
                obtain ⟨o6, po6, hf6, gr6, S17⟩ := S17.freeze ha6
                (repeat cell_call)
                refine appendF (i := 1) S17 rfl (small_sizeLine (by lia)) ?_
                intro s18 S18
                simp only [List.set_cons_zero, List.set_cons_succ] at S18
                (repeat cell_call)
                refine addI (by assumption) ?_
                intro t9 _ _
                (repeat cell_call)
                rename At _ _ _ _ _ _ => S19
                have hal' : ∀ ns : List Nat, (⟨h1, u⟩ : Σ h, Tr h) = ⟨0, ns⟩ → ¬ dead ns := by
                  intro ns hns hdn
                  cases hns
                  have h1d := hdead ns r1 r2 hdn b7 b8
                  have h2d : lo ≤ (lim 0 ns).2 := haf j _ hij (by rw [List.getElem?_map, hu]; rfl)
                  have h3d : (lim 0 ns).2 = 3 * (r2 : Int) := by unfold lim; rw [b8]; rfl
                  lia
                have hE : EntF prog w (F3.add a6 o6) tb b dead ⟨h1, u⟩ (.ref a6) :=
                  ⟨a6, kv, wy', m2', n + 1, dd, kvs', k1, rfl, ⟨o6, Fz.add_self _ _ _, po6⟩, (hw2.mono g3.1 (Int.le_refl _)).mono gr6.1 (Int.le_refl _), by have := hent.deep; simp only at this ⊢; lia, hfet.mono gr6.1, (b6.mono g3.1).mono gr6.1, (b10.mono g3.1 (fun _ _ h => h) (Int.le_refl _)).mono gr6.1 (fun _ _ h => h) (Int.le_refl _), .inr ⟨(b3.mono g3.1).mono gr6.1, b1, b2⟩, hal'⟩
                refine ⟨ks.length - (j + 1), by lia, (hI2 _ _).mpr ⟨j + 1, t9, F3.add a6 o6, ws ++ [.ref a6], (fun y => if y = Str.ofString "at" then some (Value.int ((j : Int) + 1) t9) else m5 y), S19, g3.trans gr6 (Nat.le_refl _), by lia, by lia, rfl, ?_, n1, n2, n3, n4, n5, n6, n7, by rw [show ((j + 1 : Nat) : Int) = (j : Int) + 1 from by lia]; rfl⟩⟩
                rw [slc_succ hij hu]
                exact (hws.mono fun _ _ q => q.mono gr6.1).snoc hE
              · rw [decide_eq_false c]
                (repeat cell_call)
                refine (hJ _ _).mpr ⟨rfl, j, F3, ws, m5, S16, g3, hij, hjl, hws, n1, n2, n3, n4, n5, fun k u' hk hu' x hx => ?_⟩
                have h1x : 3 * (r1 : Int) ≤ 3 * (x : Int) := by
                  rcases Nat.lt_or_eq_of_le hk with hlt' | rfl
                  · have := srt_cross hsn.1 hlt' hu hu' (head_mem b7) hx; lia
                  · rw [hu] at hu'; cases hu'
                    have := head_le (srt_kid hsn.1 (List.mem_of_getElem? hu)) b7 hx; lia
                lia
            · refine ltF (by lia) ?_
              (repeat cell_call)
              rename At _ _ _ _ _ _ => S14
              exact (hJ _ _).mpr ⟨rfl, j, F3, ws, m5, S14, g3, hij, hjl, hws, n1, n2, n3, n4, n5, fun k u hk hu => absurd (List.getElem?_eq_some_iff.mp hu).1 (by lia)⟩
          · exact (hI2 _ _).mpr ⟨i0, ti, F2, [], _, S12, Grow.refl _ _, Nat.le_refl _, hi0, rfl, by rw [show slc ks i0 i0 = [] from by simp [slc]]; exact .nil, m1, m2, m3, m4, rfl, rfl, rfl, rfl⟩
        · intro f sx hJf
          obtain ⟨rfl, j, F3, ws, m5, S13, g3, hij, hjl, hws, n1, n2, n3, n4, n5, hstop⟩ := (hJ f sx).mp hJf
          clear S11 S12 S10 S8 S9 S7 S₁
          have hwl' := hws.length
          have hwl2 : ws.length ≤ 1000 := by rw [← hwl', List.length_map, List.length_take, List.length_drop]; lia
          (repeat cell_call)
          refine methL PySem.F.slot_list_extend (by kernel_rfl) (by assumption) (.inl (by ((repeat (first | exact List.Mem.head _ | refine List.Mem.tail _ ?_))))) ?_
          (repeat cell_call)
          refine revL (by assumption) (.inl (by ((repeat (first | exact List.Mem.head _ | refine List.Mem.tail _ ?_))))) fun it s14 hit S14 => ?_
          (repeat cell_call)
          have S15 := (S14.up 3 rfl).swap
          refine extendRev hm'.h hit hll (.inr (by ((repeat (first | exact List.Mem.head _ | refine List.Mem.tail _ ?_))))) (by simp at hpl; have := hes'.length; lia) S15 fun s15 S16 => ?_
          have S17 := S16.swap.eraseIdx 2
          (repeat cell_call)
          have hbefore : ∀ (k : Nat) (u : Tr h1), k < i0 → ks[k]? = some u → ∀ x ∈ flat h1 u, 3 * (x : Int) < lo := fun k u hk hu x hx => by
            have hq2 : (List.map (lim h1) ks)[k]? = some (lim h1 u) := by rw [List.getElem?_map, hu]; rfl
            have := hbe k _ hk hq2
            obtain ⟨u', r1, r2, hu', e2, _, hr⟩ := hlim k _ hq2
            rw [hu] at hu'; cases hu'
            rw [e2] at this
            have hle := le_last (srt_kid hsn.1 (List.mem_of_getElem? hu)) hr hx
            have : 3 * (r2 : Int) < lo := this
            lia
          have hnode := flt_node (lo := lo) (hi := hi) hsn.1 hij hbefore hstop
          have hss := slc_sum (ks := ks) (i := i0) (j := j)
          refine ⟨_, ?_, (hI _ _).mpr ⟨F3, fs, es' ++ ws.reverse, fns, ps' ++ (slc ks i0 j).reverse, m5, S17, g12.trans g3 (Nat.le_refl _), n1, n2, n3, n4, ?_, ?_, ?_, rfl, ?_, ?_⟩⟩
          · rw [hnsz, List.map_append, List.sum_append, List.map_reverse, List.sum_reverse]; lia
          · exact hfs.mono fun _ _ hp => (hp.mono g2.1).mono g3.1
          · exact (hes'.mono fun _ _ hp => (hp.mono g2.1).mono g3.1).append hws.reverse
          · rw [← heq, List.reverse_append, List.reverse_append, List.reverse_reverse]
            simp only [List.reverse_cons, List.reverse_nil, List.nil_append, List.map_append, List.map_cons, List.map_nil, List.flatten_append, List.flatten_cons, List.flatten_nil, List.append_nil]
            rw [show flt lo hi (flat (⟨h1 + 1, ks⟩ : Σ h, Tr h).1 (⟨h1 + 1, ks⟩ : Σ h, Tr h).2) = flt lo hi (flat (h1 + 1) ks) from rfl, hnode, List.map_map]
            rfl
          · rw [List.map_append, List.sum_append, List.map_reverse, List.sum_reverse]; lia
          · intro q hq
            rcases List.mem_append.mp hq with hq | hq
            · exact hps q (List.mem_append_left _ hq)
            · obtain ⟨u, hu, rfl⟩ := List.mem_map.mp (List.mem_reverse.mp hq)
              have hu := List.mem_of_mem_drop (List.mem_of_mem_take hu)
              exact ⟨srt_kid hsn.1 hu, Nat.le_trans (flat_len_le hu) hsn.2⟩
  · refine (hI _ _).mpr ⟨_, [], _, [], [⟨h, t⟩], _, S5, gr0.trans gr1 (Nat.le_refl _), rfl, rfl, rfl, rfl, .nil, .cons ⟨e1, v, e0, m, 0, d, kvs, m, rfl, ⟨o1, Fz.add_self _ _ _, po1⟩, ⟨⟨[], Has.mono ⟨o0, Fz.add_self _ _ _, po0⟩ gr1.1, rfl, fun _ h => nomatch h⟩, by simpa using hh, (hf.mono gr0.1).mono gr1.1, (hdd.mono gr0.1).mono gr1.1, (hb.mono gr0.1 (fun _ _ h => h) (Int.le_refl _)).mono gr1.1 (fun _ _ h => h) (Int.le_refl _), .inl ⟨(hv.mono gr0.1).mono gr1.1, rfl⟩, hal⟩⟩ .nil, by simp, by simp, hsz, by simpa using ⟨hsrt, hfl⟩⟩
end

-- C8
/-- where the i-th of c parts of n things begins -/
def bg (n c i : Nat) : Nat := i * (n / c) + min i (n % c)
theorem bg_zero (n c : Nat) : bg n c 0 = 0 := by simp [bg]
theorem bg_succ (n c i : Nat) : bg n c (i + 1) = bg n c i + n / c + (if i < n % c then 1 else 0) := by
  unfold bg
  rw [Nat.add_mul, Nat.one_mul]
  split <;> lia
theorem bg_end (n c : Nat) (hc : 0 < c) : bg n c c = n := by
  unfold bg
  have h1 := Nat.mod_lt n hc
  rw [Nat.min_eq_right (Nat.le_of_lt h1)]
  exact Nat.div_add_mod n c
theorem bg_mono (n c : Nat) {i j : Nat} (h : i ≤ j) : bg n c i ≤ bg n c j := by
  unfold bg
  have := Nat.mul_le_mul_right (n / c) h
  lia
def partsOf {α : Type} (xs : List α) (c : Nat) : List (List α) := (List.range c).map fun i => (xs.drop (bg xs.length c i)).take (bg xs.length c (i + 1) - bg xs.length c i)
theorem parts_upto {α : Type} (xs : List α) (c : Nat) : ∀ k, k ≤ c → (((List.range k).map fun i => (xs.drop (bg xs.length c i)).take (bg xs.length c (i + 1) - bg xs.length c i))).flatten = xs.take (bg xs.length c k)
  | 0, _ => by simp [bg_zero]
  | k + 1, h => by
    rw [List.range_succ, List.map_append, List.flatten_append, parts_upto xs c k (by lia)]
    have := bg_mono xs.length c (show k ≤ k + 1 by lia)
    simp only [List.map_cons, List.map_nil, List.flatten_cons, List.flatten_nil, List.append_nil]
    have e : bg xs.length c (k + 1) = bg xs.length c k + (bg xs.length c (k + 1) - bg xs.length c k) := by lia
    conv => rhs; rw [e, List.take_add]
theorem parts_flatten {α : Type} (xs : List α) (c : Nat) (hc : 0 < c) : (partsOf xs c).flatten = xs := by
  unfold partsOf
  rw [parts_upto xs c c (Nat.le_refl _), bg_end _ _ hc, List.take_length]
theorem parts_length {α : Type} (xs : List α) (c : Nat) : (partsOf xs c).length = c := by simp [partsOf]
theorem parts_ne {α : Type} (xs : List α) (c : Nat) (hc : 0 < c) (hn : c ≤ xs.length) : ∀ p ∈ partsOf xs c, p ≠ [] := by
  intro p hp
  obtain ⟨i, hi, rfl⟩ := List.mem_map.mp hp
  have hi := List.mem_range.mp hi
  have h1 : 1 ≤ xs.length / c := (Nat.le_div_iff_mul_le hc).mpr (by lia)
  have h2 := bg_succ xs.length c i
  have h3 : bg xs.length c (i + 1) ≤ xs.length := by
    have := bg_mono xs.length c (show i + 1 ≤ c by lia)
    rw [bg_end _ _ hc] at this; exact this
  intro hz
  have := congrArg List.length hz
  rw [List.length_take, List.length_drop] at this
  simp at this
  split at h2 <;> lia
section
variable {prog : Program} {w : World} {A : Around} {P : Params} {s₀ s : Shared} {X : List Addr} {F : Fz} {N : Led} {Q : Value → Shared → Prop} {E : Value → Shared → Prop} {K : Frag}
def PartV (F : Fz) (p : List Value) (v : Value) : Prop := ∃ q, v = .ref q ∧ Has F q (ListO p)
theorem PartV.mono {F F' : Fz} {p : List Value} {v : Value} (h : PartV F p v) (l : F.le F') : PartV F' p v := let ⟨q, e, x⟩ := h; ⟨q, e, x.mono l⟩
set_option maxHeartbeats 1000000 in
theorem even_parts_ {l : Addr} {xs : List Value} {wi : Nat} {tw : Tok} (S : At (hd.heap_1 P) s₀ X F N s) (hm : Rm A 1) (hl : Has F l (ListO xs)) (hz : xs.length ≤ 1000) (hp : 0 < xs.length) (hw : 0 < wi) (hw' : wi ≤ 1000)
    (h : ∀ a F' ps s', s₀.heap.objs.size ≤ a → Grow s.heap.objs.size F F' → Al (PartV F') (partsOf xs ((xs.length + wi - 1) / wi)) ps → At (hd.heap_1 P) s₀ X F' ((a, ListO ps) :: N) s' → Q (.ref a) s') : wpAny (model prog w) A (call (.ref 431) [.ref l, .int wi tw]) Q E s := by
  have mk : Mk := .mk
  ((refine' enter (U := []) (binds := [(Str.ofString "items", Value.ref l), (Str.ofString "width", Value.int wi tw)]) ?Sq189 ?hmq189 ?hUq189 ?hUnq189 ?k1q189 ?k2q189 ?k3q189 ?k4q189 ?k5q189 ?bodyq189 ?k6q189 ?k7q189 ?k8q189; (case Sq189 => assumption); (case hmq189 => assumption); (case hUq189 => exact fun _ h => nomatch h); (case hUnq189 => exact List.nodup_nil); (case k1q189 => k_is); (case k2q189 => k_is); (case k3q189 => exact BindsTo.of_eq rfl); (case k4q189 => exact locs rfl); (case k5q189 => decide); (case k6q189 => exact rfl); (case k7q189 => exact rfl); (case k8q189 => exact rfl)))
  intro L s' hL S' hm'
  (repeat cell_call)
  refine lenL (by assumption) (.inr hl) (by lia) ?_
  intro _ _ _
  (repeat cell_call)
  refine addI (by assumption) ?_
  intro _ _ _
  (repeat cell_call)
  refine subI (by assumption) ?_
  intro _ _ _
  (repeat cell_call)
  refine fdivI (by assumption) (by lia) (by lia) ?_
  intro t9 _ _
  generalize hc : (xs.length + wi - 1) / wi = c at *
  have hc0 : 0 < c := by rw [← hc]; exact Nat.div_pos (by lia) hw
  have hcl : c ≤ xs.length := by
    rw [← hc]
    refine Nat.div_le_of_le_mul ?_
    obtain ⟨a, rfl⟩ : ∃ a, wi = a + 1 := ⟨wi - 1, by lia⟩
    obtain ⟨b, hb⟩ : ∃ b, xs.length = b + 1 := ⟨xs.length - 1, by lia⟩
    rw [hb, Nat.add_mul, Nat.mul_add]
    have := Nat.zero_le (a * b)
    lia
  rw [show ((xs.length : Int) + (wi : Int) - 1) / (wi : Int) = (c : Int) from by
    rw [← hc, Int.natCast_ediv]; congr 1; lia]
  (repeat cell_call)
  refine mkList (by assumption) (by (exact small_sizeLine (by simp))) fun rl s₁ hrl S₁ => ?_
  have S₁ := S₁.swap
  (repeat cell_call)
  have hparts : ∀ i, i < c → (partsOf xs c)[i]? = some ((xs.drop (bg xs.length c i)).take (bg xs.length c (i + 1) - bg xs.length c i)) := fun i hi => by
    unfold partsOf
    rw [List.getElem?_map, List.getElem?_range hi]; rfl
  refine forI (K := hd.heap_1 P) (X := []) (s₀ := s) (by exact rfl) (by exact rfl) hL ?_
  (repeat cell_call)
  refine range1 (by assumption) fun rr s₂ S₂ => ?_
  refine iterRange (n := c) S₂ (.inl (.head _)) (by lia) (by decide) (by decide) (by lia) (by lia) fun it s₃ hit S₃ => ?_
  refine ⟨it, _, c, _, _, F, _, _, fun i F' m N' => Grow s.heap.objs.size F F' ∧ (∃ ps, N' = [(rl, ListO ps)] ∧ Al (PartV F') ((partsOf xs c).take i) ps) ∧ m (Str.ofString "items") = some (.ref l) ∧ m (Str.ofString "rows") = some (.ref rl) ∧ (∃ t, m (Str.ofString "count") = some (.int c t)) ∧ (∃ t, m (Str.ofString "begun") = some (.int (bg xs.length c i) t)),
    rfl, srcR hm'.h hit, S₃.eraseIdx 1, ⟨Grow.refl _ _, ⟨[], rfl, .nil⟩, rfl, rfl, ⟨t9, rfl⟩, by rw [bg_zero]; exact ⟨_, rfl⟩⟩, fun _ _ _ _ _ _ _ => trivial, ?_, ?_⟩
  · rintro i F' m N' u s₄ hi ⟨t1, rfl⟩ ⟨hg, ⟨ps, rfl, hps⟩, m1, m2, ⟨t2, m3⟩, ⟨t3, m4⟩⟩ S₄
    have hpl := hps.length
    have hbe : bg xs.length c (i + 1) ≤ xs.length := by
      have := bg_mono xs.length c (show i + 1 ≤ c by lia)
      rw [bg_end _ _ hc0] at this; exact this
    have hbm := bg_mono xs.length c (show i ≤ i + 1 by lia)
    (repeat cell_call)
    refine lenL (by assumption) (.inr (hl.mono hg.1)) (by lia) ?_
    intro _ _ _
    (repeat cell_call)
    refine fdivI (by assumption) (by lia) (by lia) ?_
    intro _ _ _
    (repeat cell_call)
    refine addI (by assumption) ?_
    intro _ _ _
    (repeat cell_call)
    refine lenL (by assumption) (.inr (hl.mono hg.1)) (by lia) ?_
    intro _ _ _
    (repeat cell_call)
    refine modI (by assumption) (by lia) ?_
    intro _ _ _
    (repeat cell_call)
    have hm1 : (xs.length : Int) % (c : Int) = ((xs.length % c : Nat) : Int) := (Int.natCast_emod _ _).symm
    have hd1 : (xs.length : Int) / (c : Int) = ((xs.length / c : Nat) : Int) := (Int.natCast_ediv _ _).symm
    have hsx : ∀ te, (Value.int ((bg xs.length c (i + 1) : Nat) : Int) te) = .int ((bg xs.length c i : Int) + ((xs.length / c : Nat) : Int) + (if i < xs.length % c then 1 else 0)) te := fun te => by
      rw [bg_succ]; push_cast; split <;> rfl
    rw [hd1, hm1]
    rcases Nat.lt_or_ge i (xs.length % c) with hc1 | hc1
    · rw [if_pos hc1] at hsx
      refine ltT (by lia) ?_
      (repeat cell_call)
      refine addI (by assumption) ?_
      intro te _ _
      rw [← hsx te]
      (repeat cell_call)
      refine methL PySem.F.slot_list_append (by kernel_rfl) (by assumption) (.inl (by ((repeat (first | exact List.Mem.head _ | refine List.Mem.tail _ ?_))))) ?_
      (repeat cell_call)
      refine mkSlice (K := hd.heap_1 P) (X := []) (s₀ := s) ?_
      refine evalPart_some_step ?_
      (repeat cell_call)
      refine evalPart_some_step ?_
      (repeat cell_call)
      refine evalPart_none_step ?_
      refine ⟨_, _, by assumption, fun sl s9 hsl S9 => ?_⟩
      refine subSl S9 (.inr (hl.mono hg.1)) (.inl (.head _)) (.int _ _) (.int _ _) .none (by simp) (by lia) (fun q s10 hq S10 => ?_) rfl (by intro _; rfl)
      rw [slicePick_run _ _ _ (by simpa using hbe) hbm] at S10
      obtain ⟨o, po, hfq, gr, S11⟩ := S10.freeze hq
      have S12 := S11.tail
      (repeat cell_call)
      refine appendF (i := 2) S12 rfl (small_sizeLine (by rw [← hpl, List.length_take, parts_length]; lia)) ?_
      intro s13 S13
      simp only [List.set_cons_zero, List.set_cons_succ] at S13
      (repeat cell_call)
      rename At _ _ _ _ _ _ => S14
      refine ⟨F'.add q o, _, [(rl, ListO (ps ++ [.ref q]))], ?_, S14⟩
      refine ⟨hg.trans gr (Nat.le_refl _), ⟨_, rfl, ?_⟩, m1, m2, ⟨t2, m3⟩, ⟨te, rfl⟩⟩
      rw [take_snoc (hparts i hi)]
      exact (hps.mono fun _ _ z => z.mono gr.1).snoc ⟨q, rfl, o, Fz.add_self _ _ _, po⟩
    · rw [if_neg (by lia)] at hsx
      refine ltF (by lia) ?_
      (repeat cell_call)
      refine addI (by assumption) ?_
      intro te _ _
      rw [← hsx te]
      (repeat cell_call)
      refine methL PySem.F.slot_list_append (by kernel_rfl) (by assumption) (.inl (by ((repeat (first | exact List.Mem.head _ | refine List.Mem.tail _ ?_))))) ?_
      (repeat cell_call)
      refine mkSlice (K := hd.heap_1 P) (X := []) (s₀ := s) ?_
      refine evalPart_some_step ?_
      (repeat cell_call)
      refine evalPart_some_step ?_
      (repeat cell_call)
      refine evalPart_none_step ?_
      refine ⟨_, _, by assumption, fun sl s9 hsl S9 => ?_⟩
      refine subSl S9 (.inr (hl.mono hg.1)) (.inl (.head _)) (.int _ _) (.int _ _) .none (by simp) (by lia) (fun q s10 hq S10 => ?_) rfl (by intro _; rfl)
      rw [slicePick_run _ _ _ (by simpa using hbe) hbm] at S10
      obtain ⟨o, po, hfq, gr, S11⟩ := S10.freeze hq
      have S12 := S11.tail
      (repeat cell_call)
      refine appendF (i := 2) S12 rfl (small_sizeLine (by rw [← hpl, List.length_take, parts_length]; lia)) ?_
      intro s13 S13
      simp only [List.set_cons_zero, List.set_cons_succ] at S13
      (repeat cell_call)
      rename At _ _ _ _ _ _ => S14
      refine ⟨F'.add q o, _, [(rl, ListO (ps ++ [.ref q]))], ?_, S14⟩
      refine ⟨hg.trans gr (Nat.le_refl _), ⟨_, rfl, ?_⟩, m1, m2, ⟨t2, m3⟩, ⟨te, rfl⟩⟩
      rw [take_snoc (hparts i hi)]
      exact (hps.mono fun _ _ z => z.mono gr.1).snoc ⟨q, rfl, o, Fz.add_self _ _ _, po⟩
  · rintro F' m N' s₄ ⟨hg, ⟨ps, rfl, hps⟩, m1, m2, _, _⟩ S₄
    (repeat cell_call)
    rw [List.take_of_length_le (by rw [parts_length]; exact Nat.le_refl _)] at hps
    exact h rl F' ps _ (Nat.le_trans S.size hrl) hg hps (At.back (U := []) (R := [_]) S (by assumption) hg (by simp) (by simp) (by simp))
end

-- C9
section
variable {prog : Program} {w : World} {A : Around} {P : Params} {s₀ s : Shared} {X : List Addr} {F : Fz} {N : Led} {Q : Value → Shared → Prop} {E : Value → Shared → Prop} {K : Frag}
theorem freezeInst {x dx C : Addr} {l : List (Str × Value)} (S : At K s₀ X F ((x, InstO C dx) :: (dx, AttrX l) :: N) s) (hx : s₀.heap.objs.size ≤ x) (hd : s₀.heap.objs.size ≤ dx) (hl : l.length ≤ 500) :
    ∃ F', Grow s₀.heap.objs.size F F' ∧ InstF F' x C l ∧ At K s₀ X F' N s := by
  obtain ⟨o, po, hf, gr, S1⟩ := S.freeze hx
  obtain ⟨o2, po2, hf2, gr2, S2⟩ := S1.freeze hd
  exact ⟨_, gr.trans gr2 (Nat.le_refl _), ⟨dx, Has.mono ⟨o, Fz.add_self _ _ _, po⟩ gr2.1, ⟨o2, Fz.add_self _ _ _, po2.attrs hl⟩⟩, S2⟩
set_option maxHeartbeats 1000000 in
theorem mkString {k : Value} (S : At (hd.heap_1 P) s₀ X F N s) (hm : Rm A 2) (h : ∀ x F' s', Grow s₀.heap.objs.size F F' → InstF F' x 205 [(Str.ofString "is_hex", .bool false), (Str.ofString "octets", k)] → At (hd.heap_1 P) s₀ X F' N s' → Q (.ref x) s') :
    wpAny (model prog w) A (call (.ref 205) [k]) Q E s := by
  ((refine' mkInst (C := 205) (fI := 202) (binds := (fun x => [(Str.ofString "self", Value.ref x), (Str.ofString "octets", k), (Str.ofString "is_hex", Value.bool false)])) ?Sq221 ?hmq221 ?k1q221 ?k2q221 ?k3q221 ?k4q221 ?k5q221 ?k6q221 ?k7q221 ?k8q221 ?bodyq221 ?k9q221 ?k10q221 ?k11q221; (case Sq221 => assumption); (case k1q221 => k_is); (case k2q221 => k_is); (case k3q221 => k_is); (case k4q221 => k_is); (case k5q221 => k_is); (case k6q221 => first | (intro _ _ _; exact BindsTo.of_eq rfl) | ((intro x9 s9 k9; refine' binds_K k9 ?hdq222 ?hoq222 ?hsq222 ?h1q222 ?h2q222; (case hdq222 => exact rfl); (case hoq222 => k_is); (case hsq222 => exact rfl); (case h1q222 => exact rfl); (case h2q222 => exact rfl)))); (case k7q221 => intro x; exact locs rfl); (case k8q221 => decide); (case k9q221 => exact rfl); (case k10q221 => exact rfl); (case k11q221 => exact rfl)))
  case hmq221 => exact hm
  intro x dx A' L s₁ s' S1 hdx hx hL h3 S' hm'
  (repeat cell_call)
  ((refine plainObj_wpAny_Assign_Attribute ?_ ?hswq224; (case hswq224 => exact rfl)))
  (repeat cell_call)
  ((refine' setA (i := 2) ?Sq226 ?xq226 ?iq226 ?lq226 ?aq226 ?bq226 ?cq226 ?dq226 ?_; (case Sq226 => assumption); (case iq226 => exact rfl); (case xq226 => exact .inl (by ((repeat (first | exact List.Mem.head _ | refine List.Mem.tail _ ?_))))); (case lq226 => simp); (case aq226 => k_is); (case bq226 => k_is); (case cq226 => k_is); (case dq226 => k_is); (intro _ S9; simp only [List.set_cons_zero, List.set_cons_succ] at S9)))
  (repeat cell_call)
  ((refine plainObj_wpAny_Assign_Attribute ?_ ?hswq229; (case hswq229 => exact rfl)))
  (repeat cell_call)
  ((refine' setA (i := 2) ?Sq231 ?xq231 ?iq231 ?lq231 ?aq231 ?bq231 ?cq231 ?dq231 ?_; (case Sq231 => assumption); (case iq231 => exact rfl); (case xq231 => exact .inl (by ((repeat (first | exact List.Mem.head _ | refine List.Mem.tail _ ?_))))); (case lq231 => simp); (case aq231 => k_is); (case bq231 => k_is); (case cq231 => k_is); (case dq231 => k_is); (intro _ S9; simp only [List.set_cons_zero, List.set_cons_succ] at S9)))
  (repeat cell_call)
  refine ⟨rfl, ?_⟩
  rename At _ _ _ _ _ _ => S9
  have hne : x ≠ dx := by have := S1.nodup; rw [List.map_cons, List.map_cons, List.nodup_cons] at this; exact fun e => this.1 (by rw [e]; exact .head _)
  obtain ⟨F', gr, hi, S10⟩ := freezeInst (l := [(Str.ofString "is_hex", .bool false), (Str.ofString "octets", k)]) (C := 205) (At.back (U := [(x, InstO 205 dx), (dx, AttrX [])]) (R := [(x, InstO 205 dx), (dx, AttrX _)]) S1 S9 (Grow.refl _ _) (by simp) (by simp) (by simpa using hne)) hx hdx (by simp)
  exact h x F' _ gr hi S10
end
section
variable {prog : Program} {w : World} {A : Around} {P : Params} {s₀ s : Shared} {X : List Addr} {F : Fz} {N : Led} {Q : Value → Shared → Prop} {E : Value → Shared → Prop} {K : Frag}
set_option maxHeartbeats 1000000 in
theorem key_object_ {b : Bool} {r : Int} {t : Tok} {k : Value} (S : At (hd.heap_1 P) s₀ X F N s) (hm : Rm A 3) (hk : RawK b r k) (h : ∀ v F' s', Grow s.heap.objs.size F F' → KeyO F' b v k → At (hd.heap_1 P) s₀ X F' N s' → Q v s') :
    wpAny (model prog w) A (call (.ref 372) [.str (wordS b) t, k]) Q E s := by
  ((refine' enter (U := []) (binds := [(Str.ofString "word", Value.str (wordS b) t), (Str.ofString "key", k)]) ?Sq234 ?hmq234 ?hUq234 ?hUnq234 ?k1q234 ?k2q234 ?k3q234 ?k4q234 ?k5q234 ?bodyq234 ?k6q234 ?k7q234 ?k8q234; (case Sq234 => assumption); (case hmq234 => assumption); (case hUq234 => exact fun _ h => nomatch h); (case hUnq234 => exact List.nodup_nil); (case k1q234 => k_is); (case k2q234 => k_is); (case k3q234 => exact BindsTo.of_eq rfl); (case k4q234 => exact locs rfl); (case k5q234 => decide); (case k6q234 => exact rfl); (case k7q234 => exact rfl); (case k8q234 => exact rfl)))
  intro L s' hL S' hm'
  (repeat cell_call)
  refine eq_str ?_
  cases b with
  | false =>
    rw [show (wordS false == Str.ofString "Names") = true from by decide +kernel]
    (repeat cell_call)
    refine mkString (by assumption) hm' fun x F' s₂ gr hi S₂ => ?_
    (repeat cell_call)
    exact h _ F' _ gr ⟨x, rfl, hi⟩ (S.ret S₂ gr)
  | true =>
    rw [show (wordS true == Str.ofString "Names") = false from by decide +kernel]
    (repeat cell_call)
    exact h k F _ (Grow.refl _ _) rfl (S.ret0 (by assumption))
theorem RowF.snoc {b : Bool} {ns : List Nat} {xs : List Value} {n : Nat} {v k : Value} {t : Tok} (h : RowF F b ns xs) (hv : KeyO F b v k) (hk : RawK b (3 * n) k) : RowF F b (ns ++ [n]) (xs ++ [v] ++ [.int n t]) := by
  refine ⟨by simp [h.1]; lia, fun i m e => ?_⟩
  by_cases hi : i < ns.length
  · rw [List.getElem?_append_left hi] at e
    obtain ⟨v', k', t', a1, a2, a3, a4⟩ := h.2 i m e
    have hl := h.1
    refine ⟨v', k', t', ?_, ?_, a3, a4⟩
    · rw [List.append_assoc, List.getElem?_append_left (by lia)]; exact a1
    · rw [List.append_assoc, List.getElem?_append_left (by lia)]; exact a2
  · have hi' : i = ns.length := by
      have := (List.getElem?_eq_some_iff.mp e).1
      simp at this; lia
    subst hi'
    simp at e
    subst e
    refine ⟨v, k, t, ?_, ?_, hv, hk⟩
    · rw [← h.1, List.append_assoc]; simp
    · rw [← h.1, List.append_assoc, List.getElem?_append_right (by lia)]; simp
theorem merged2 {k1 k2 : Str} {a b : Value} (hne : k1 ≠ k2) : merged [] [(k1, a), (k2, b)] = [(k1, a), (k2, b)] := by
  simp [merged, stored, hne]
theorem wordS_ne (b : Bool) : Str.ofString "Limits" ≠ wordS b := by cases b <;> decide +kernel
theorem wordS_ne' (b : Bool) : wordS b ≠ kS := by cases b <;> decide +kernel
theorem valueAt2 {k1 k2 : Str} {a b : Value} (hne : k1 ≠ k2) : valueAt [(k1, a), (k2, b)] k1 = some a ∧ valueAt [(k1, a), (k2, b)] k2 = some b := by
  constructor
  · simp [valueAt]
  · simp [valueAt, hne]
theorem valueAt2n {k1 k2 k : Str} {a b : Value} (h1 : k1 ≠ k) (h2 : k2 ≠ k) : valueAt [(k1, a), (k2, b)] k = none := by simp [valueAt, h1, h2]
/-- a node's dict ahead of its laying, its limits told -/
def NumV (F : Fz) (b : Bool) (n : Nat) (v : Value) : Prop := PairF F b n v
set_option maxHeartbeats 2000000 in
theorem leaf_node_ {b : Bool} {t : Tok} {l : Addr} {ns : List Nat} {vs : List Value} {r1 r2 : Nat} (S : At (hd.heap_1 P) s₀ X F N s) (hm : Rm A 4) (hl : Has F l (ListO vs)) (hp : Al (PairF F b) ns vs) (hz : ns.length ≤ 1000) (h1 : ns.head? = some r1) (h2 : ns.getLast? = some r2)
    (h : ∀ d F' s' kvs l' xs, Grow s.heap.objs.size F F' → HasD prog w F' d kvs → kvs.map (·.1) = [Str.ofString "Limits", wordS b] → LimF prog w F' b kvs (3 * (r1 : Int)) (3 * (r2 : Int)) → valueAt kvs (wordS b) = some (.ref l') → Has F' l' (ListO xs) → RowF F' b ns xs → valueAt kvs kS = none →
      At (hd.heap_1 P) s₀ X F' N s' → Q (.ref d) s') : wpAny (model prog w) A (call (.ref 438) [.str (wordS b) t, .ref l]) Q E s := by
  ((refine' enter (U := []) (binds := [(Str.ofString "word", Value.str (wordS b) t), (Str.ofString "pairs", Value.ref l)]) ?Sq239 ?hmq239 ?hUq239 ?hUnq239 ?k1q239 ?k2q239 ?k3q239 ?k4q239 ?k5q239 ?bodyq239 ?k6q239 ?k7q239 ?k8q239; (case Sq239 => assumption); (case hmq239 => assumption); (case hUq239 => exact fun _ h => nomatch h); (case hUnq239 => exact List.nodup_nil); (case k1q239 => k_is); (case k2q239 => k_is); (case k3q239 => exact BindsTo.of_eq rfl); (case k4q239 => exact locs rfl); (case k5q239 => decide); (case k6q239 => exact rfl); (case k7q239 => exact rfl); (case k8q239 => exact rfl)))
  intro L s' hL S' hm'
  (repeat cell_call)
  refine mkList (by assumption) (by (exact small_sizeLine (by simp))) fun rl s₁ hrl S₁ => ?_
  have S₁ := S₁.swap
  (repeat cell_call)
  refine forTL (K := hd.heap_1 P) (X := []) (s₀ := s) hm'.h hL ?_
  (repeat cell_call)
  rename At _ _ _ _ _ _ => S₂
  refine ⟨l, vs, F, _, _, fun i F' m N' => Grow s.heap.objs.size F F' ∧ (∃ xs, N' = [(rl, ListO xs)] ∧ RowF F' b (ns.take i) xs) ∧ m (Str.ofString "word") = some (.str (wordS b) t) ∧ m (Str.ofString "pairs") = some (.ref l) ∧ m (Str.ofString "row") = some (.ref rl),
    rfl, S₂, ⟨Grow.refl _ _, ⟨[], rfl, rfl, fun i n e => by simp at e⟩, rfl, rfl, rfl⟩, fun i F' m N' hI => hl.mono hI.1.1, ?_, ?_⟩
  · rintro i F' m N' v it s₃ hv ⟨hg, ⟨xs, rfl, hx⟩, m1, m2, m3⟩ S₃
    obtain ⟨n, hn, pa, pk, pt, rfl, hpt, hpk⟩ := hp.get' hv
    have hil := (List.getElem?_eq_some_iff.mp hn).1
    refine unpackT hm'.h S₃ (.inr (hpt.mono hg.1)) ⟨_, .head _, hL⟩ rfl rfl ?_
    intro _ _
    ((refine wpAny_assignInOrder_more ?_; refine wpAny_assign_Name ?_; (refine' stL ?Sq244 ?_ ?aq244 ?bq244; (case Sq244 => assumption); (case aq244 => exact rfl); (case bq244 => exact rfl); intro _ _)))
    ((refine wpAny_assignInOrder_more ?_; refine wpAny_assign_Name ?_; (refine' stL ?Sq245 ?_ ?aq245 ?bq245; (case Sq245 => assumption); (case aq245 => exact rfl); (case bq245 => exact rfl); intro _ _)))
    ((refine wpAny_assignInOrder_none ?_))
    (repeat cell_call)
    refine methL PySem.F.slot_list_append (by kernel_rfl) (by assumption) (.inl (by ((repeat (first | exact List.Mem.head _ | refine List.Mem.tail _ ?_))))) ?_
    (repeat cell_call)
    refine key_object_ (by assumption) hm' hpk fun kv F2 s₄ g2 hkv S₄ => ?_
    have g2 := g2.mono (n := s.heap.objs.size) (At.size (by assumption))
    (repeat cell_call)
    have hxl := hx.1
    refine appendF (i := 2) S₄ rfl (small_sizeLine (by rw [hxl, List.length_take]; lia)) ?_
    intro s₅ S₅
    simp only [List.set_cons_zero, List.set_cons_succ] at S₅
    (repeat cell_call)
    refine methL PySem.F.slot_list_append (by kernel_rfl) (by assumption) (.inl (by ((repeat (first | exact List.Mem.head _ | refine List.Mem.tail _ ?_))))) ?_
    (repeat cell_call)
    refine appendF (i := 2) S₅ rfl (small_sizeLine (by rw [List.length_append, hxl, List.length_take]; simp; lia)) ?_
    intro s₆ S₆
    simp only [List.set_cons_zero, List.set_cons_succ] at S₆
    (repeat cell_call)
    refine ⟨F2, _, [(rl, ListO (xs ++ [kv] ++ [.int n pt]))], ?_, S₆⟩
    refine ⟨hg.trans g2 (Nat.le_refl _), ⟨_, rfl, ?_⟩, m1, m2, m3⟩
    rw [take_snoc hn]
    exact (hx.mono g2.1).snoc hkv hpk
  · rintro F' m N' s₃ ⟨hg, ⟨xs, rfl, hx⟩, m1, m2, m3⟩ S₃
    rw [← hp.length, List.take_length] at hx
    obtain ⟨v1, e1, p1, k1, t1, rfl, hp1, hk1⟩ := hp.get (i := 0) (by rw [← List.head?_eq_getElem?]; exact h1)
    have hpl := hp.length
    have hlast : ns[ns.length - 1]? = some r2 := by rw [← List.getLast?_eq_getElem?]; exact h2
    obtain ⟨v2, e2, p2, k2, t2, rfl, hp2, hk2⟩ := hp.get hlast
    (repeat cell_call)
    ((refine' dictE ?Sq256 ?haq256 ?hlq256 ?h0q256 ?hnq256 ?_; (case Sq256 => assumption); (case haq256 => exact rfl); (case hlq256 => exact rfl); (case h0q256 => simp); (case hnq256 => decide)))
    intro a s₄ ha h3 S₄
    have S₄ := S₄.swap
    refine pairTrees_cons_walk ?_
    (repeat cell_call)
    refine subL (by assumption) (.inr (hl.mono hg.1)) (by decide) (by decide) e1 ?_ rfl
    (repeat cell_call)
    refine subT (by assumption) (.inr (hp1.mono hg.1)) (by decide) (by decide) rfl ?_ rfl
    (repeat cell_call)
    refine key_object_ (by assumption) hm' hk1 fun kv F2 s₅ g2 hkv S₅ => ?_
    have g2 := g2.mono (n := s.heap.objs.size) (At.size (by assumption))
    have hg2 := hg.trans g2 (Nat.le_refl _)
    (repeat cell_call)
    refine negI (by assumption) ?_
    intro _ _ _
    refine subLlast (by assumption) (.inr (hl.mono hg2.1)) (by rw [List.getLast?_eq_getElem?, ← hpl]; exact e2) ?_ rfl
    (repeat cell_call)
    refine subT (by assumption) (.inr (hp2.mono hg2.1)) (by decide) (by decide) rfl ?_ rfl
    (repeat cell_call)
    refine key_object_ (by assumption) hm' hk2 fun kv2 F3 s₆ g3 hkv2 S₆ => ?_
    have g3 := g3.mono (n := s.heap.objs.size) (At.size (by assumption))
    (repeat cell_call)
    refine mkList (by assumption) (by (exact small_sizeLine (by simp))) fun li s₇ hli S₇ => ?_
    obtain ⟨o4, po4, hf4, gr4, S₈⟩ := S₇.freeze hli
    refine pairTrees_cons_walk ?_
    (repeat cell_call)
    refine pairTrees_nil_walk ?_
    refine ⟨[(Str.ofString "Limits", .ref li), (wordS b, .ref rl)], _, _, ⟨strKind_is _ _ _ _, rfl, strKind_is _ _ _ _, rfl, trivial⟩, S₈.swap, fun s₉ S₉ => ?_⟩
    rw [merged2 (wordS_ne b)] at S₉
    obtain ⟨o5, po5, hf5, gr5, S10⟩ := S₉.freeze ha
    obtain ⟨o6, po6, hf6, gr6, S11⟩ := S10.tail.freeze hrl
    have gg : Grow s.heap.objs.size F _ := (((hg2.trans g3 (Nat.le_refl _)).trans gr4 (Nat.le_refl _)).trans gr5 (Nat.le_refl _)).trans gr6 (Nat.le_refl _)
    have l46 : Fz.le _ _ := gr5.1.trans gr6.1
    refine h a _ _ _ rl xs gg ⟨h3, Has.mono ⟨o5, Fz.add_self _ _ _, po5⟩ gr6.1⟩ rfl ⟨li, kv, kv2, k1, k2, (valueAt2 (wordS_ne b)).1, Has.mono ⟨o4, Fz.add_self _ _ _, po4⟩ l46, ((hkv.mono g3.1).mono gr4.1).mono l46, hk1, (hkv2.mono gr4.1).mono l46, hk2⟩
      (valueAt2 (wordS_ne b)).2 ⟨o6, Fz.add_self _ _ _, po6⟩ ((((hx.mono g2.1).mono g3.1).mono gr4.1).mono l46) (valueAt2n (by decide +kernel) (wordS_ne' b)) (S.ret S11 gg)
end

-- C10
/-- what a node's dict says ahead of its laying -/
def PreB (prog : Program) (w : World) (F : Fz) (b : Bool) : (h : Nat) → Tr h → List (Str × Value) → Prop
  | 0, ns, kvs => kvs.map (·.1) = [Str.ofString "Limits", wordS b] ∧ ∃ l xs, valueAt kvs (wordS b) = some (.ref l) ∧ Has F l (ListO xs) ∧ RowF F b ns xs
  | h + 1, ks, kvs => kvs.map (·.1) = [Str.ofString "Limits", kS] ∧ ∃ l vs, valueAt kvs kS = some (.ref l) ∧ Has F l (ListO vs) ∧ Al (fun (t : Tr h) v => ∃ d kvs' r1 r2, v = .ref d ∧ HasD prog w F d kvs' ∧
      (flat h t).head? = some r1 ∧ (flat h t).getLast? = some r2 ∧ LimF prog w F b kvs' (3 * (r1 : Int)) (3 * (r2 : Int)) ∧ PreB prog w F b h t kvs') (ks : List (Tr h)) vs
def PreV (prog : Program) (w : World) (F : Fz) (b : Bool) (h : Nat) (t : Tr h) (v : Value) : Prop := ∃ d kvs' r1 r2, v = .ref d ∧ HasD prog w F d kvs' ∧
      (flat h t).head? = some r1 ∧ (flat h t).getLast? = some r2 ∧ LimF prog w F b kvs' (3 * (r1 : Int)) (3 * (r2 : Int)) ∧ PreB prog w F b h t kvs'
theorem PreB.mono {prog : Program} {w : World} {F F' : Fz} {b : Bool} (l : F.le F') : ∀ {h : Nat} {t : Tr h} {kvs : List (Str × Value)}, PreB prog w F b h t kvs → PreB prog w F' b h t kvs
  | 0, _, _, ⟨e, l', xs, x, y, z⟩ => ⟨e, l', xs, x, y.mono l, z.mono l⟩
  | h + 1, _, _, ⟨e, l', vs, x, y, z⟩ => ⟨e, l', vs, x, y.mono l, z.mono fun t v ⟨d, kvs', r1, r2, a1, a2, a3, a4, a5, a6⟩ => ⟨d, kvs', r1, r2, a1, a2.mono l, a3, a4, a5.mono l, a6.mono l⟩⟩
theorem PreV.mono {prog : Program} {w : World} {F F' : Fz} {b : Bool} {h : Nat} {t : Tr h} {v : Value} (x : PreV prog w F b h t v) (l : F.le F') : PreV prog w F' b h t v :=
  let ⟨d, kvs', r1, r2, a1, a2, a3, a4, a5, a6⟩ := x; ⟨d, kvs', r1, r2, a1, a2.mono l, a3, a4, a5.mono l, a6.mono l⟩
section
variable {prog : Program} {w : World} {A : Around} {P : Params} {s₀ s : Shared} {X : List Addr} {F : Fz} {N : Led} {Q : Value → Shared → Prop} {E : Value → Shared → Prop} {K : Frag}
theorem head_flatten {α : Type} {a : List α} {L : List (List α)} {x : α} (h : a.head? = some x) : (a :: L).flatten.head? = some x := by
  cases a with
  | nil => cases h
  | cons y ys => simpa using h
theorem last_flatten {α : Type} {a : List α} {L : List (List α)} {x : α} (h : a.getLast? = some x) : (L ++ [a]).flatten.getLast? = some x := by
  rw [List.flatten_append]
  simp only [List.flatten_cons, List.flatten_nil, List.append_nil]
  rw [List.getLast?_append, h]; rfl
set_option maxHeartbeats 2000000 in
theorem inner_node_ {b : Bool} {l : Addr} {h : Nat} {ks : List (Tr h)} {vs : List Value} (S : At (hd.heap_1 P) s₀ X F N s) (hm : Rm A 1) (hl : Has F l (ListO vs)) (hk : Al (PreV prog w F b h) ks vs) (hne : ks ≠ []) (hz : ks.length ≤ 1000)
    (hq : ∀ v F' s', Grow s.heap.objs.size F F' → PreV prog w F' b (h + 1) ks v → At (hd.heap_1 P) s₀ X F' N s' → Q v s') : wpAny (model prog w) A (call (.ref 445) [.ref l]) Q E s := by
  have hlen := hk.length
  have hpos : 0 < ks.length := List.length_pos_iff.mpr hne
  obtain ⟨t1, et1⟩ : ∃ t1, ks[0]? = some t1 := ⟨ks[0], List.getElem?_eq_getElem hpos⟩
  obtain ⟨t2, et2⟩ : ∃ t2, ks[ks.length - 1]? = some t2 := ⟨_, List.getElem?_eq_getElem (show ks.length - 1 < ks.length by lia)⟩
  obtain ⟨v1, ev1, d1, kvs1, r1, r1', rfl, hd1, hh1, _, ⟨li1, a1, a2, a3, a4, hli1, hl1, k1, k2, k3, k4⟩, _⟩ := hk.get et1
  obtain ⟨v2, ev2, d2, kvs2, r2', r2, rfl, hd2, _, hh2, ⟨li2, c1, c2, c3, c4, hli2, hl2, q1, q2, q3, q4⟩, _⟩ := hk.get et2
  ((refine' enter (U := []) (binds := [(Str.ofString "kids", Value.ref l)]) ?Sq266 ?hmq266 ?hUq266 ?hUnq266 ?k1q266 ?k2q266 ?k3q266 ?k4q266 ?k5q266 ?bodyq266 ?k6q266 ?k7q266 ?k8q266; (case Sq266 => assumption); (case hmq266 => assumption); (case hUq266 => exact fun _ h => nomatch h); (case hUnq266 => exact List.nodup_nil); (case k1q266 => k_is); (case k2q266 => k_is); (case k3q266 => exact BindsTo.of_eq rfl); (case k4q266 => exact locs rfl); (case k5q266 => decide); (case k6q266 => exact rfl); (case k7q266 => exact rfl); (case k8q266 => exact rfl)))
  intro L s' hL S' hm'
  (repeat cell_call)
  ((refine' dictE ?Sq268 ?haq268 ?hlq268 ?h0q268 ?hnq268 ?_; (case Sq268 => assumption); (case haq268 => exact rfl); (case hlq268 => exact rfl); (case h0q268 => simp); (case hnq268 => decide)))
  intro a s₄ ha h3 S₄
  have S₄ := S₄.swap
  refine pairTrees_cons_walk ?_
  (repeat cell_call)
  refine subL (by assumption) (.inr hl) (by decide) (by decide) ev1 ?_ rfl
  (repeat cell_call)
  refine subDS (by assumption) (.inr hd1.h) hli1 ?_ rfl
  intro _ _
  (repeat cell_call)
  refine subL (by assumption) (.inr hl1) (by decide) (by decide) rfl ?_ rfl
  (repeat cell_call)
  refine negI (by assumption) ?_
  intro _ _ _
  refine subLlast (by assumption) (.inr hl) (by rw [List.getLast?_eq_getElem?, ← hlen]; exact ev2) ?_ rfl
  (repeat cell_call)
  refine subDS (by assumption) (.inr hd2.h) hli2 ?_ rfl
  intro _ _
  (repeat cell_call)
  refine subL (by assumption) (.inr hl2) (by decide) (by decide) rfl ?_ rfl
  (repeat cell_call)
  refine mkList (by assumption) (by (exact small_sizeLine (by simp))) fun li s₇ hli S₇ => ?_
  obtain ⟨o4, po4, hf4, gr4, S₈⟩ := S₇.freeze hli
  refine pairTrees_cons_walk ?_
  (repeat cell_call)
  refine pairTrees_nil_walk ?_
  have hne2 : Str.ofString "Limits" ≠ kS := by decide +kernel
  rename At _ _ _ _ _ _ => S9
  refine ⟨[(Str.ofString "Limits", .ref li), (kS, .ref l)], _, _, ⟨strKind_is _ _ _ _, rfl, strKind_is _ _ _ _, rfl, trivial⟩, S9.swap, fun s₉ S₉ => ?_⟩
  rw [merged2 hne2] at S₉
  obtain ⟨o5, po5, hf5, gr5, S10⟩ := S₉.freeze ha
  have gg : Grow s.heap.objs.size F _ := gr4.trans gr5 (Nat.le_refl _)
  refine hq _ _ _ gg ⟨a, _, r1, r2, rfl, ⟨h3, ⟨o5, Fz.add_self _ _ _, po5⟩⟩, ?_, ?_, ⟨li, _, _, _, _, (valueAt2 hne2).1, Has.mono ⟨o4, Fz.add_self _ _ _, po4⟩ gr5.1, k1.mono gg.1, k2, q3.mono gg.1, q4⟩, ⟨rfl, l, vs, (valueAt2 hne2).2, hl.mono gg.1, hk.mono fun _ _ z => z.mono gg.1⟩⟩ (S.ret S10.tail gg)
  · cases ks with
    | nil => exact absurd rfl hne
    | cons u us => simp at et1; subst et1; exact head_flatten hh1
  · obtain ⟨us, u, rfl⟩ := List.eq_nil_or_concat ks |>.resolve_left hne
    rw [List.concat_eq_append] at *
    simp at et2; subst et2
    show (List.map (flat h) (us ++ [u])).flatten.getLast? = some r2
    rw [List.map_append]
    exact last_flatten hh2
end

-- C11
theorem kvs2 {kvs : List (Str × Value)} {k1 k2 : Str} (h : kvs.map (·.1) = [k1, k2]) : ∃ a b, kvs = [(k1, a), (k2, b)] := by
  match kvs, h with
  | [(x, a), (y, b)], h => simp at h; exact ⟨a, b, by rw [h.1, h.2]⟩
theorem isStr_val {prog : Program} {w : World} {k : Str} {v : Value} (h : (strKind prog w).is k v = true) : ∃ t, v = .str k t := by
  have h : Value.isStrOf k v = true := h
  cases v <;> simp [Value.isStrOf] at h
  exact ⟨_, by rw [h]⟩
section
variable {prog : Program} {w : World} {A : Around} {P : Params} {s₀ s : Shared} {X : List Addr} {F : Fz} {N : Led} {Q : Value → Shared → Prop} {E : Value → Shared → Prop} {K : Frag}
set_option maxHeartbeats 2000000 in
theorem as_root_ {d : Addr} {kvs : List (Str × Value)} {k2 : Str} {v2 : Value} (S : At (hd.heap_1 P) s₀ X F N s) (hm : Rm A 1) (hdd : HasD prog w F d kvs) (hk : kvs.map (·.1) = [Str.ofString "Limits", k2]) (hne : Str.ofString "Limits" ≠ k2) (hv : valueAt kvs k2 = some v2)
    (h : ∀ d' F' s', Grow s.heap.objs.size F F' → HasD prog w F' d' [(k2, v2)] → At (hd.heap_1 P) s₀ X F' N s' → Q (.ref d') s') : wpAny (model prog w) A (call (.ref 450) [.ref d]) Q E s := by
  obtain ⟨va, vb, rfl⟩ := kvs2 hk
  rw [(valueAt2 hne).2] at hv
  cases hv
  ((refine' enterC (U := []) (binds := [(Str.ofString "node", Value.ref d)]) (cs := (fun L => [(L + 1, some (Value.ref d))])) ?Sq278 ?hmq278 ?hUq278 ?hUnq278 ?k1q278 ?k2q278 ?k3q278 ?k4q278 ?k5q278 ?k9q278 ?bodyq278 ?k6q278 ?k7q278 ?k8q278; (case Sq278 => assumption); (case hmq278 => assumption); (case hUq278 => first | exact fun _ h => nomatch h | skip); (case hUnq278 => first | exact List.nodup_nil | skip); (case k1q278 => k_is); (case k2q278 => k_is); (case k3q278 => exact BindsTo.of_eq rfl); (case k4q278 => exact rfl); (case k5q278 => decide); (case k9q278 => (intro _; exact rfl)); (case k6q278 => exact rfl); (case k7q278 => exact rfl); (case k8q278 => exact rfl)))
  intro L s' hL S' hm'
  (repeat cell_call)
  obtain ⟨ep, hE⟩ := hasE hdd.h
  refine dcompE0 (K := hd.heap_1 P) (X := []) (s₀ := s) (by exact rfl) (by decide) rfl (by decide) (by exact rfl) ?_
  (repeat cell_call)
  refine iterD (by assumption) hE (nosys hdd.n) fun it s₂ hit S₂ => ?_
  refine ⟨it, _, 2, _, _, F, _, fun i ys => ys = ([(Str.ofString "Limits", va), (k2, v2)].take i).drop 1, rfl, srcD (kvs := [(Str.ofString "Limits", va), (k2, v2)]) hm'.h hit, by decide, S₂, rfl, fun _ _ => hE, ?_, ?_⟩
  · rintro i ys v mc C acc s₃ hi ⟨k, y, hky, his⟩ rfl S₃
    obtain ⟨t, rfl⟩ := isStr_val his
    refine ifs1 ?_
    (repeat cell_call)
    refine ne_str ?_
    match i, hi, hky with
    | 0, _, hky =>
      cases hky
      rw [show (Str.ofString "Limits" != Str.ofString "Limits") = false from by decide +kernel]
      (repeat cell_call)
      exact ⟨_, rfl, by assumption⟩
    | 1, _, hky =>
      cases hky
      rw [show (k2 != Str.ofString "Limits") = true from bne_iff_ne.mpr (Ne.symm hne)]
      (repeat cell_call)
      refine subDS (by assumption) (.inr hdd.h) (valueAt2 hne).2 ?_ rfl
      intro _ _
      exact ⟨_, _, _, rfl, Nat.zero_le _, rfl, by assumption⟩
  · rintro ys acc s₃ rfl hacc h3 S₃
    obtain ⟨o5, po5, hf5, gr5, S10⟩ := S₃.freeze hacc
    exact h acc _ _ gr5 ⟨h3, ⟨o5, Fz.add_self _ _ _, po5⟩⟩ (S.ret S10 gr5)
end

-- S1
section
open PyProof.Rows
def bsRank (b : Array UInt8) : Option Int := ((List.range 62).find? (fun r => decide (r % 3 ≠ 2) && (bsOf r == b))).map Int.ofNat
theorem bsRank_of {b : Array UInt8} {a : Int} (h : bsRank b = some a) : ∃ r, r < 62 ∧ r % 3 ≠ 2 ∧ b = bsOf r ∧ a = (r : Int) := by
  unfold bsRank at h
  obtain ⟨r, hr, rfl⟩ := Option.map_eq_some_iff.mp h
  have h1 := List.find?_some hr
  have h2 := List.mem_of_find?_eq_some hr
  simp only [Bool.and_eq_true, decide_eq_true_eq, beq_iff_eq] at h1
  exact ⟨r, List.mem_range.mp h2, h1.1, h1.2.symm, rfl⟩
theorem bsRank_bs : ∀ r < 62, r % 3 ≠ 2 → bsRank (bsOf r) = some (r : Int) := by decide +kernel
def rawOf : Bool → Value → Option Int
  | true, .int i _ => some i
  | false, .bytes b _ => bsRank b
  | _, _ => none
theorem rawOf_some {b : Bool} {v : Value} {a : Int} (h : rawOf b v = some a) : RawK b a v := by
  cases b with
  | true => cases v <;> simp [rawOf] at h; subst h; exact ⟨_, rfl⟩
  | false =>
    cases v <;> simp [rawOf] at h
    obtain ⟨r, h1, h2, rfl, rfl⟩ := bsRank_of h
    have e : bsOf r = bsOf ((r : Int).toNat) := by rw [Int.toNat_natCast]
    exact ⟨_, congrArg (fun z => Value.bytes z _) e, by lia, by lia, by lia⟩
theorem rawOf_raw {b : Bool} {v : Value} {a : Int} (h : RawK b a v) : rawOf b v = some a := by
  cases b with
  | true => obtain ⟨t, rfl⟩ := h; rfl
  | false =>
    obtain ⟨t, rfl, h0, h1, h2⟩ := h
    show bsRank (bsOf a.toNat) = some a
    rw [bsRank_bs _ (by lia) (by lia)]
    congr 1; lia
@[reducible] def rawKind (b : Bool) : PyProof.Rows.KeyKind where
  α := Int
  blt a b := decide (a < b)
  irrefl a := by simp
  trans a b c h1 h2 := by simp only [decide_eq_true_eq] at *; lia
  negTrans a b c h := by simp only [decide_eq_true_eq] at *; lia
  total a b h1 h2 := by simp only [decide_eq_false_iff_not] at *; lia
  keyOf v := rawOf b v
  dflt := 0
theorem call_bytes_lt {prog : Program} {w : World} {A : Around} {E : Value → Shared → Prop} {s : Shared} {a b : Array UInt8} {t u : Tok} {Q : Value → Shared → Prop} (h : Q (.bool (PySem.Builtin.Bytes.order a.toList b.toList == .lt)) s) :
    wpAny (model prog w) A (call (.builtin "bytes.__lt__") [.bytes a t, .bytes b u]) Q E s := by
  refine wpAny_call_entry slot_bytes_lt (typeIs_bytes s a t) entry_bytes_lt ?_ (args_bytes_lt_2 _ _)
  show wpAny _ _ (isInstance (.bytes b u) (.type "bytes") >>= fun r => _) _ _ s
  refine wpAny_bind (wpAny_isInstance (typeIs_bytes s b u) PySem.F.sub_bytes_bytes ?_)
  exact wpAny_pure ⟨_, rfl, h⟩
theorem rawKind_oneLt (b : Bool) : (rawKind b).OneLt := by
  intro prog w A E s x y (a : Int) (c : Int) Q ha hb h
  have ha := rawOf_some ha
  have hb := rawOf_some hb
  cases b with
  | true =>
    obtain ⟨t, rfl⟩ := ha; obtain ⟨u, rfl⟩ := hb
    exact PyProof.Rows.oneLt_int h
  | false =>
    obtain ⟨t, rfl, a0, a1, a2⟩ := ha; obtain ⟨u, rfl, b0, b1, b2⟩ := hb
    rw [PyProof.Rows.oneLt'_eq]
    simp only [if_true]
    refine wpAny_bind (wpAny_cRoomFor_byValue rfl ?_)
    refine wpAny_bind (wpAny_callSpecialIfBound?_slot (typeIs_bytes s _ t) slot_bytes_lt (call_bytes_lt ?_))
    rw [order_raw a0 a1 a2 b0 b1 b2]
    refine wpAny_truthy_bool ?_
    have h : Q (decide (a < c)) s := h
    by_cases k : a < c
    · rw [cmp_lt (by lia)]; rw [decide_eq_true k] at h; exact h
    · rw [decide_eq_false k] at h
      by_cases d : a = c
      · rw [cmp_eq (by lia)]; exact h
      · rw [cmp_gt (by lia)]; exact h
theorem raw_type {b : Bool} {v : Value} {a : Int} (h : RawK b a v) : typeOf v = pure (.type (if b then "int" else "bytes")) ∧ firstOfTuple' v = pure none := by
  cases b with
  | true => obtain ⟨t, rfl⟩ := h; exact ⟨rfl, rfl⟩
  | false => obtain ⟨t, rfl, _⟩ := h; exact ⟨rfl, rfl⟩
theorem mapM_const {α β : Type} {f : α → Sem β} {y : β} : ∀ {vs : List α}, (∀ v ∈ vs, f v = pure y) → vs.mapM f = pure (vs.map fun _ => y)
  | [], _ => by simp
  | v :: vs, h => by rw [List.mapM_cons, h v (.head _), mapM_const fun v hv => h v (.tail _ hv)]; simp
theorem keyKind_raw {b : Bool} {vs : List Value} (h2 : 2 ≤ vs.length) (h : ∀ v ∈ vs, ∃ a, RawK b a v) : keyKind' vs.toArray = pure oneType' := by
  obtain ⟨v₁, v₂, rest, rfl⟩ : ∃ v₁ v₂ rest, vs = v₁ :: v₂ :: rest := by
    match vs, h2 with
    | v₁ :: v₂ :: rest, _ => exact ⟨v₁, v₂, rest, rfl⟩
  rw [keyKind'_eq, List.mapM_toArray, mapM_const (y := none) fun v hv => let ⟨a, ha⟩ := h v hv; (raw_type ha).2]
  simp only [map_pure, pure_bind]
  rw [if_neg (by simp), if_neg (by simp)]
  rw [oneTypeOnly'_eq, List.mapM_toArray, mapM_const (y := .type (if b then "int" else "bytes")) fun v hv => let ⟨a, ha⟩ := h v hv; (raw_type ha).1]
  simp only [map_pure, pure_bind]
  have hall : ((List.map (fun _ => Value.type (if b then "int" else "bytes")) (v₁ :: v₂ :: rest)).toArray.all fun x => x == Value.type (if b then "int" else "bytes")) = true := by
    simp only [List.all_toArray, List.all_map, List.all_eq_true]
    intro _ _
    simp
  have h0 : (List.map (fun _ => Value.type (if b then "int" else "bytes")) (v₁ :: v₂ :: rest)).toArray[0]? = some (Value.type (if b then "int" else "bytes")) := by simp
  rw [h0]
  simp only [hall, if_true]
  rfl
end

-- S2
section
open PyProof.Rows
def RawOut (rs : List Int) (vs out : List Value) : Prop :=
  ∃ ps : List (Int × Value), ps.Perm (rs.zip vs) ∧ out = ps.map Prod.snd ∧ ps.Pairwise (fun p q => p.1 ≤ q.1)
def rnk (b : Bool) (v : Value) : Int := (rawOf b v).getD 0
theorem rnk_of {b : Bool} {v : Value} {a : Int} (h : RawK b a v) : rnk b v = a := by unfold rnk; rw [rawOf_raw h]; rfl
theorem rnks {b : Bool} {rs : List Int} {keys : List Value} (h : Al (fun r k => RawK b r k) rs keys) : keys.map (rnk b) = rs := by
  induction h with
  | nil => rfl
  | cons a _ ih => rw [List.map_cons, rnk_of a, ih]
theorem raw_out {b : Bool} {rs : List Int} {keys vs : List Value} (hk : Al (fun r k => RawK b r k) rs keys) {xs : Array Keyed} (hp : xs.Perm (keys.toArray.zip vs.toArray)) (hs : SortedToK (rawKind b) xs xs.size) :
    RawOut rs vs (xs.map (·.2)).toList := by
  have hl : xs.toList.Perm (keys.zip vs) := by have := Array.perm_iff_toList_perm.mp hp; rwa [ksk_zip] at this
  have h1 : (xs.toList.map (fun p : Keyed => (rnk b p.1, p.2))).Perm (rs.zip vs) := by
    have e2 : (keys.zip vs).map (fun p : Keyed => (rnk b p.1, p.2)) = rs.zip vs := by
      rw [← rnks hk, List.zip_map_left]
      exact List.map_congr_left fun ⟨x, y⟩ _ => rfl
    rw [← e2]
    exact hl.map _
  have h2 : (xs.map (·.2)).toList = (xs.toList.map (fun p : Keyed => (rnk b p.1, p.2))).map Prod.snd := by
    rw [Array.toList_map, List.map_map]
    rfl
  refine ⟨_, h1, h2, ?_⟩
  rw [List.pairwise_iff_getElem]
  intro i j hi hj hij
  have hi' : i < xs.size := by simpa using hi
  have hj' : j < xs.size := by simpa using hj
  have q := hs i j (Nat.le_of_lt hij) hj'
  have ki : ∀ (i : Nat) (hi : i < xs.size), KK (rawKind b) xs i = rnk b xs[i].1 := fun i hi => by
    unfold KK
    rw [Array.getElem?_eq_getElem hi]
    rfl
  rw [ki i hi', ki j hj'] at q
  have q : decide (rnk b xs[j].1 < rnk b xs[i].1) = false := q
  simp at q ⊢
  exact q
theorem fst_inj {β : Type} : ∀ {l : List (Int × β)} {a b : Int × β}, l.Pairwise (fun p q => p.1 < q.1) → a ∈ l → b ∈ l → a.1 = b.1 → a = b
  | x :: l, a, b, hp, ha, hb, e => by
    obtain ⟨h1, h2⟩ := List.pairwise_cons.mp hp
    rcases List.mem_cons.mp ha with ea | ha' <;> rcases List.mem_cons.mp hb with eb | hb'
    · rw [ea, eb]
    · have := h1 b hb'; rw [ea] at e; lia
    · have := h1 a ha'; rw [eb] at e; lia
    · exact fst_inj h2 ha' hb' e
/-- sorted of a list that is sorted strictly but for its order -/
theorem RawOut.uniq {rs : List Int} {vs out : List Value} (h : RawOut rs vs out) (hl : rs.length = vs.length) {rs' : List Int} {vs' : List Value} (hl' : rs'.length = vs'.length) (hp : (rs'.zip vs').Perm (rs.zip vs)) (hs : rs'.Pairwise (· < ·)) : out = vs' := by
  obtain ⟨ps, h1, rfl, h3⟩ := h
  have e : ps = rs'.zip vs' := by
    refine List.Perm.eq_of_pairwise (le := fun p q : Int × Value => p.1 ≤ q.1) ?_ h3 ?_ (h1.trans hp.symm)
    · intro a b ha hb hab hba
      have ha' := (h1.trans hp.symm).mem_iff.mp ha
      have hz : (rs'.zip vs').Pairwise (fun p q => p.1 < q.1) := by
        have : ((rs'.zip vs').map Prod.fst).Pairwise (· < ·) := by rw [List.map_fst_zip (by lia)]; exact hs
        exact List.pairwise_map.mp this
      have heq : a.1 = b.1 := Int.le_antisymm hab hba
      exact fst_inj hz ha' hb heq
    · have : ((rs'.zip vs').map Prod.fst).Pairwise (· ≤ ·) := by rw [List.map_fst_zip (by lia)]; exact hs.imp fun h => Int.le_of_lt h
      exact List.pairwise_map.mp this
  rw [e, List.map_snd_zip (by lia)]
section
variable {prog : Program} {w : World} {A : Around} {K : Frag} {s₀ s : Shared} {X : List Addr} {F : Fz} {N : Led} {E : Value → Shared → Prop} {b : Bool} {rs : List Int} {vs keys : List Value} {a kS : Addr} {e1 : Nat} {P : PySem.Fin → Shared → Prop}
set_option maxHeartbeats 4000000 in
theorem rsTail {st : SortSt} (S : At K s₀ X F ((kS, ListO keys) :: (a, fun o => o = seqObj "list" #[] e1) :: N) s) (hk : Al (fun r k => RawK b r k) rs keys) (hlen : rs.length = vs.length) (h64 : vs.length < 64)
    (hp : (arrOf st).Perm (keys.toArray.zip vs.toArray)) (hs : SortedToK (rawKind b) (arrOf st) (arrOf st).size) (hfl : failedOf st = none)
    (h : ∀ s' out, At K s₀ X F ((a, ListO out) :: N) s' → RawOut rs vs out → P (.done (.ret .none)) s') :
    wpAny (model prog w) A (ksk_tail a false e1 (.ref kS) st) P E s := by
  have hkl := hk.length
  have hsz2 : (arrOf st).size = vs.length := by rw [hp.size_eq, Array.size_zip, List.size_toArray, List.size_toArray, ← hkl, hlen, Nat.min_self]
  obtain ⟨o1, ek, n1, rfl⟩ := S.get (.head _)
  unfold ksk_tail
  try dsimp only
  refine wpAny_bind (listUpdate_at ek rfl ?_ (by rw [List.size_toArray]; exact small_sizeLine (by lia)) (Nat.zero_le _))
  have S1 := S.set (i := 0) (t := s.toks) (P' := fun _ => True) (h' := s.heap.update kS (Obj.mapSeq fun _ => (#[] : Array Value))) rfl (Heap.SameBut.update ..) ⟨_, get?_update_seq ek fun _ => #[], trivial⟩
  rw [List.set_cons_zero] at S1
  refine wpAny_bind (wpAny_letGo ?_)
  obtain ⟨o2, ea, rfl⟩ := S1.get (.tail _ (.head _))
  refine wpAny_bind (seqEpoch_at ea rfl ?_)
  refine wpAny_bind (listUpdate_at ea rfl ?_ (Nat.zero_le _) (by simp only [Bool.false_eq_true, if_false, Array.size_map, hsz2]; exact Nat.le_succ_of_le (small_sizeLine (by lia))))
  rw [hfl]
  simp only [bne_self_eq_false, Bool.false_eq_true, if_false]
  have S2 := S1.set (i := 1) (t := s.toks) (P' := ListO ((arrOf st).map (·.2)).toList) (h' := (s.heap.update kS (Obj.mapSeq fun _ => (#[] : Array Value))).update a (Obj.mapSeq fun _ => (arrOf st).map (·.2))) rfl (Heap.SameBut.update ..)
    ⟨_, get?_update_seq ea fun _ => (arrOf st).map (·.2), _, by rw [Array.toArray_toList]⟩
  simp only [List.set_cons_zero, List.set_cons_succ] at S2
  exact wpAny_pure (h _ _ S2.tail (raw_out hk hp hs))
set_option maxHeartbeats 4000000 in
theorem rsEnd (S : At K s₀ X F ((kS, ListO keys) :: (a, fun o => o = seqObj "list" #[] e1) :: N) s) (hk : Al (fun r k => RawK b r k) rs keys) (hlen : rs.length = vs.length) (h64 : vs.length < 64)
    (h : ∀ s' out, At K s₀ X F ((a, ListO out) :: N) s' → RawOut rs vs out → P (.done (.ret .none)) s') :
    wpAny (model prog w) A (ksk_end a false vs.toArray e1 (.ref kS) keys.toArray) P E s := by
  have hkl := hk.length
  have hzs : (keys.toArray.zip vs.toArray).size = vs.length := by rw [Array.size_zip, List.size_toArray, List.size_toArray, ← hkl, hlen, Nat.min_self]
  unfold ksk_end
  try dsimp only
  simp only [Bool.false_eq_true, if_false]
  by_cases h2 : vs.toArray.size < 2
  · rw [if_pos h2, if_pos h2]
    refine wpAny_bind (wpAny_pure ?_)
    rw [StateT.run_pure]
    refine wpAny_bind (wpAny_pure ?_)
    try dsimp only
    refine rsTail (st := SortSt.mk' general' (keys.toArray.zip vs.toArray) #[] 7 none) S hk hlen h64 (Array.Perm.refl _) ?_ rfl h
    intro i j hij hj
    have hj2 : j < (keys.toArray.zip vs.toArray).size := hj
    rw [hzs] at hj2
    rw [List.size_toArray] at h2
    have : i = j := by lia
    subst this
    exact KeyOrd.kle_refl _
  · rw [if_neg h2, if_neg h2]
    rw [List.size_toArray] at h2
    rw [keyKind_raw (by lia) fun v hv => by
      obtain ⟨i, hi⟩ := List.mem_iff_getElem?.mp hv
      obtain ⟨r, _, hr⟩ := hk.get' hi
      exact ⟨r, hr⟩]
    refine wpAny_bind (wpAny_pure ?_)
    refine wpAny_bind (wpAny_mono (wpS_sortRunsK (κ := rawKind b) (rawKind_oneLt b) (a₀ := keys.toArray.zip vs.toArray) (st := SortSt.mk' oneType' (keys.toArray.zip vs.toArray) #[] 7 none)
      (Q := fun _ st' => (arrOf st').Perm (keys.toArray.zip vs.toArray) ∧ failedOf st' = none ∧ SortedToK (rawKind b) (arrOf st') (keys.toArray.zip vs.toArray).size)
      (fun p hp => ?_) ⟨Array.Perm.refl _, rfl, rfl, rfl⟩ (by rw [hzs]; lia) (by rw [hzs]; exact h64) fun st' a1 a2 a3 => ⟨a1, a2, a3⟩) ?_ fun _ _ e => e)
    · rw [ksk_zip] at hp
      obtain ⟨x, y⟩ := p
      obtain ⟨i, hi⟩ := List.mem_iff_getElem?.mp (List.of_mem_zip hp).1
      obtain ⟨r, _, hr⟩ := hk.get' hi
      exact ⟨r, rawOf_raw hr⟩
    · rintro ⟨⟨⟩, st'⟩ s' ⟨rfl, hp, hf, hs⟩
      try dsimp only
      exact rsTail S hk hlen h64 hp (by rw [hp.size_eq]; exact hs) hf h
end
end

-- S3
section
open PyProof.Rows
variable {prog : Program} {w : World} {A : Around} {K : Frag} {s₀ s : Shared} {X : List Addr} {F : Fz} {N : Led} {E : Value → Shared → Prop} {b : Bool} {rs : List Int} {vs keys : List Value} {a kS : Addr} {e1 : Nat} {P : PySem.Fin → Shared → Prop}
set_option maxHeartbeats 4000000 in
theorem rsRest {f : Value} (S : At K s₀ X F ((kS, ListO []) :: (a, fun o => o = seqObj "list" #[] e1) :: N) s) (hlen : rs.length = vs.length) (h64 : vs.length < 64)
    (turn : ∀ (j : Nat) (v : Value) (r : Int), vs[j]? = some v → rs[j]? = some r → ∀ s' N', At K s₀ X F N' s' → wpAny (model prog w) A (call f [v]) (fun k s'' => RawK b r k ∧ At K s₀ X F N' s'') NoE s')
    (h : ∀ s' out, At K s₀ X F ((a, ListO out) :: N) s' → RawOut rs vs out → P (.done (.ret .none)) s') :
    wpAny (model prog w) A (ksk_rest a f false vs.toArray e1 (.ref kS)) P E s := by
  unfold ksk_rest
  refine wpAny_bind (wpAny_rule ?_)
  first
    | rw [List.forIn_toArray]
    | (rw [← Array.forIn_toList]; simp only [List.toList_toArray])
    | rw [← Array.forIn_toList]
  refine wpAny_bind (ksk_fold (fun i s' => ∃ keys : List Value, At K s₀ X F ((kS, ListO keys) :: (a, fun o => o = seqObj "list" #[] e1) :: N) s' ∧ Al (fun r k => RawK b r k) (rs.take i) keys) vs 0 s
    ⟨[], S, by simpa using .nil⟩ ?step ?done)
  case step =>
    rintro j x s' hx ⟨keys, S', hk⟩
    simp only [Nat.zero_add] at hk ⊢
    have hj : j < vs.length := (List.getElem?_eq_some_iff.mp hx).1
    obtain ⟨r, hr⟩ : ∃ r, rs[j]? = some r := ⟨_, List.getElem?_eq_getElem (by lia)⟩
    have hz : keys.length ≤ vs.length := by rw [← hk.length, List.length_take]; lia
    refine wpAny_bind (wpAny_attempt (wpAny_mono (turn j x r hx hr s' _ S') (fun v s'' he => ?_) fun _ _ hF => hF.elim))
    obtain ⟨hrk, S''⟩ := he
    try dsimp only
    obtain ⟨o1, ek, n1, rfl⟩ := S''.get (.head _)
    refine wpAny_bind (listUpdate_at ek rfl ?_ (by rw [List.size_toArray]; exact small_sizeLine (by lia)) (by rw [Array.size_push, List.size_toArray]; exact Nat.le_succ_of_le (small_sizeLine (by lia))))
    have S1 := S''.set (i := 0) (t := s''.toks) (P' := ListO (keys ++ [v])) (h' := s''.heap.update kS (Obj.mapSeq (·.push v))) rfl (Heap.SameBut.update ..) ⟨_, get?_update_seq ek (·.push v), _, by rw [List.push_toArray]⟩
    rw [List.set_cons_zero] at S1
    refine wpAny_pure ⟨rfl, keys ++ [v], S1, ?_⟩
    rw [take_snoc hr]
    exact hk.snoc hrk
  case done =>
    rintro s' ⟨keys, S', hk⟩
    rw [List.take_of_length_le (by lia)] at hk
    obtain ⟨o1, ek, n1, rfl⟩ := S'.get (.head _)
    try dsimp only
    refine wpAny_bind (listItems_at ek rfl ?_)
    exact rsEnd S' hk hlen h64 h
set_option maxHeartbeats 4000000 in
theorem rsSort {f : Value} {i : Nat} (S : At K s₀ X F ((a, ListO vs) :: N) s) (hlen : rs.length = vs.length) (h64 : vs.length < 64)
    (turn : ∀ (j : Nat) (v : Value) (r : Int), vs[j]? = some v → rs[j]? = some r → ∀ s' N', At K s₀ X F N' s' → wpAny (model prog w) A (call f [v]) (fun k s'' => RawK b r k ∧ At K s₀ X F N' s'') NoE s')
    (h : ∀ s' out, At K s₀ X F ((a, ListO out) :: N) s' → RawOut rs vs out → P (.done (.ret .none)) s') :
    wpAny (model prog w) A (ksk_tree a f false) P E s := by
  obtain ⟨o1, ea, n1, rfl⟩ := S.get (.head _)
  unfold ksk_tree
  refine wpAny_bind (listItems_at ea rfl ?_)
  refine wpAny_bind (listUpdate_at ea rfl ?_ (by rw [List.size_toArray]; exact small_sizeLine (by lia)) (Nat.zero_le _))
  obtain ⟨e2, hoe⟩ : ∃ e2, (s.heap.update a (Obj.mapSeq fun _ => (#[] : Array Value))).get? a = some (seqObj "list" #[] e2) := ⟨_, get?_update_seq ea fun _ => #[]⟩
  have S1 := S.set (i := 0) (t := s.toks) (P' := fun o => o = seqObj "list" #[] e2) (h' := s.heap.update a (Obj.mapSeq fun _ => (#[] : Array Value))) rfl (Heap.SameBut.update ..) ⟨_, hoe, rfl⟩
  rw [List.set_cons_zero] at S1
  refine wpAny_bind (seqEpoch_at hoe rfl ?_)
  refine wpAny_bind (mkTup S1 (by rw [List.toList_toArray]; exact small_sizeLine (by lia)) fun q s2 hq S2 => ?_)
  refine wpAny_bind (mkList S2 (by simp) fun kS s3 hkS S3 => ?_)
  refine wpAny_holding ?_
  exact rsRest (S3.eraseIdx 1) hlen h64 turn h
set_option maxHeartbeats 4000000 in
theorem rsSorted {l f : Addr} {Q : Value → Shared → Prop} (S : At K s₀ X F N s) (hl : Here F N l (ListO vs)) (hlen : rs.length = vs.length) (h64 : vs.length < 64)
    (turn : ∀ (j : Nat) (v : Value) (r : Int), vs[j]? = some v → rs[j]? = some r → ∀ s' N', At K s₀ X F N' s' → wpAny (model prog w) A.in1.in1 (call (.ref f) [v]) (fun k s'' => RawK b r k ∧ At K s₀ X F N' s'') NoE s')
    (h : ∀ D s' out, s₀.heap.objs.size ≤ D → At K s₀ X F ((D, ListO out) :: N) s' → RawOut rs vs out → Q (.ref D) s') :
    wpAny (model prog w) A (call (.builtin "sorted") [.ref l] [(Str.ofString "key", .ref f)]) Q E s := by
  refine call_function_entry_kw kind_sorted plain_sorted entry_sorted (ksk_s1 _ _) ?_
  unfold Builtin.«sorted»
  refine wpAny_bind (m := checkCount "sorted" 1 1 _) (wpAny_pure ?_)
  have S1 := S.push (t := s.toks) (o := seqObj "list" #[] 0) (P := fun o => o = seqObj "list" #[] 0) rfl rfl
  have hg : (s.heap.push (seqObj "list" #[] 0)).get? s.heap.objs.size = some (seqObj "list" #[] 0) := Heap.get?_push_size _ rfl
  have S2 := S1.set (i := 0) (t := s.toks) (P' := fun _ => True) (h' := (s.heap.push (seqObj "list" #[] 0)).update s.heap.objs.size (Obj.mapSeq (· ++ vs.toArray))) rfl (Heap.SameBut.update ..) ⟨_, get?_update_seq hg (· ++ vs.toArray), trivial⟩
  rw [List.set_cons_zero] at S2
  refine wpAny_bind (collect_list (S.isList hl) ?_ (small_sizeLine (by lia)))
  refine wpAny_bind (mkList S2.tail (small_sizeLine (by lia)) fun D s3 hD S3 => ?_)
  obtain ⟨o1, ea, n1, rfl⟩ := S3.get (.head _)
  refine wpAny_bind (wpAny_holding (wpAny_call_entry_kw slot_list_sort ⟨_, ea, rfl⟩ entry_list_sort ?body (ksk_l1 _ _)))
  case body =>
    rw [ksk_t1]
    refine rsSort (i := 0) S3 hlen h64 turn fun s4 out S4 ho => ⟨_, rfl, ?_⟩
    exact wpAny_pure ⟨_, rfl, h D s4 out hD S4 ho⟩
/-- sorted without a key -/
theorem rsSorted0 {l : Addr} {Q : Value → Shared → Prop} (S : At K s₀ X F N s) (hl : Here F N l (ListO vs)) (hk : Al (fun r k => RawK b r k) rs vs) (h64 : vs.length < 64)
    (h : ∀ D s' out, s₀.heap.objs.size ≤ D → At K s₀ X F ((D, ListO out) :: N) s' → RawOut rs vs out → Q (.ref D) s') :
    wpAny (model prog w) A (call (.builtin "sorted") [.ref l]) Q E s := by
  have hkl := hk.length
  refine sortedK (κ := rawKind b) (rawKind_oneLt b) (S.isList hl) (fun p hp => ?_) (fun v₁ v₂ rest e => ?_) h64 fun st' hp hs => ?_
  · have hp' : p ∈ (vs.toArray.zip vs.toArray).toList := hp
    rw [ksk_zip] at hp'
    obtain ⟨x, y⟩ := p
    obtain ⟨i, hi⟩ := List.mem_iff_getElem?.mp (List.of_mem_zip hp').1
    obtain ⟨r, _, hr⟩ := hk.get' hi
    exact ⟨r, rawOf_raw hr⟩
  · rw [← e]
    refine keyKind_raw (b := b) (by rw [e]; simp) fun v hv => ?_
    obtain ⟨i, hi⟩ := List.mem_iff_getElem?.mp hv
    obtain ⟨r, _, hr⟩ := hk.get' hi
    exact ⟨r, hr⟩
  · obtain ⟨e, he⟩ := sortedAll_at s.heap vs ((arrOf st').map (·.2))
    have S1 : At K s₀ X F N { s with heap := sortedAll s.heap vs ((arrOf st').map (·.2)), toks := s.toks } := S.grow (Nat.le_of_lt (Nat.lt_trans (Nat.lt_succ_self _) (Heap.lt_size he))) fun b o e => sortedAll_old e
    refine h _ _ _ (Nat.le_succ_of_le S.size) (S1.more ⟨_, he, e, by rw [Array.toArray_toList]⟩ (S.fresh (Nat.le_succ _)) (fun hm => ?_) (.inl (Nat.le_succ_of_le S.size))) (raw_out hk hp (by rw [hp.size_eq]; exact hs))
    exact S.off (Nat.le_succ _) hm
end

-- L1
section
variable {prog : Program} {w : World} {A : Around} {K : Frag} {s₀ s : Shared} {X : List Addr} {F : Fz} {N : Led} {Q : Value → Shared → Prop} {E : Value → Shared → Prop}
theorem At.setExt {i : Nat} {a : Addr} {P P' : OP} {h' : Heap} {t : Nat} (S : At K s₀ X F N s) (hi : N[i]? = some (a, P)) (hsz : s.heap.objs.size ≤ h'.objs.size) (hs : Heap.ExtBut a s.heap h') (h : ∃ o, h'.get? a = some o ∧ P' o) :
    At K s₀ X F (N.set i (a, P')) { s with heap := h', toks := t } := by
  have hm := List.mem_of_getElem? hi
  have A := S.news _ hm
  have hlt : i < N.length := (List.getElem?_eq_some_iff.mp hi).1
  have hmap : (N.set i (a, P')).map (·.1) = N.map (·.1) := by
    rw [List.map_set]
    apply List.ext_getElem?
    intro j
    rw [List.getElem?_set]
    by_cases q : i = j
    · subst q
      have e : i < (N.map (·.1)).length := by simpa using hlt
      rw [if_pos rfl, if_pos e, List.getElem?_map, hi]; rfl
    · rw [if_neg q]
  refine ⟨S.top, S.rest, Nat.le_trans S.size hsz, fun b o e n => ?_, fun b o e => ?_, fun p hp => ?_, by rw [hmap]; exact S.nodup⟩
  · refine hs _ _ (fun q => ?_) (S.ext b o e n)
    subst q
    rcases A.2.2 with r | r
    · exact absurd (Heap.lt_size e) (Nat.not_lt.mpr r)
    · exact n r
  · refine hs _ _ (fun q => ?_) (S.fz b o e)
    subst q; rw [A.2.1] at e; cases e
  · obtain ⟨j, hj⟩ := List.mem_iff_getElem?.mp hp
    rw [List.getElem?_set] at hj
    by_cases q : i = j
    · subst q
      rw [if_pos rfl, if_pos hlt] at hj
      cases hj
      exact ⟨h, A.2⟩
    · rw [if_neg q] at hj
      have hpm := List.mem_of_getElem? hj
      obtain ⟨⟨o, e, r⟩, x⟩ := S.news p hpm
      refine ⟨⟨o, hs _ _ (fun z => q ?_) e, r⟩, x⟩
      have h1 : (N.map (·.1))[i]? = some a := by rw [List.getElem?_map, hi]; rfl
      have h2 : (N.map (·.1))[j]? = some a := by rw [List.getElem?_map, hj]; exact congrArg some z
      exact (List.getElem?_inj (by simpa using hlt) S.nodup).mp (h1.trans h2.symm)
/-- what the making of a lambda in the function of code c, its table P, rests on -/
def LamF (F : Fz) (c P : Addr) : Prop := ∀ h : Heap, (∀ b o, F b = some o → h.get? b = some o) → CodeHd h c P ∧ ∃ mg, h.Ns mainGlobals mg ∧ mainGlobals ≠ P ∧ h.BuiltinsAt mg P
theorem LamF.mono {F F' : Fz} {c P : Addr} (h : LamF F c P) (l : F.le F') : LamF F' c P := fun hp k => h hp fun b o e => k b o (l b o e)
structure LamV (F : Fz) (f : Addr) (qual : Str) (params : Arguments) (body : PySem.Expr) (scope : Scope) : Prop where
  h : ∃ pm c' ctv, Has F f (fun o => o = kla_obj "<lambda>" qual params body scope [] pm c' ctv) ∧ ∀ h : Heap, (∀ b o, F b = some o → h.get? b = some o) → h.CodeRec (.ref c') qual
theorem mkLam {params : Arguments} {body : PySem.Expr} {scope : Scope} {pos : Pos} {env : Env} {c P : Addr} {i : Nat} (S : At K s₀ X F N s) (hF : LamF F c P) (hi : N[i]? = some (P, fun o => o = tabObj #[])) (hcode : env.code = .ref c) (hge : env.globals = mainGlobals)
    (hcl : closureFor scope env = pure []) (hdef : defaultsOf params env = ([], []))
    (h : ∀ f F' s', Grow s₀.heap.objs.size F F' → LamV F' f (env.qual ++ "<lambda>") params body scope → At K s₀ X F' (N.set i (P, fun o => ∃ ps, o = tabObj ps)) s' → Q (.ref f) s') : wpAny (model prog w) A (eval (.Lambda params body scope pos) env) Q E s := by
  obtain ⟨C, mg, hg, hgP, hb⟩ := hF _ S.fz
  obtain ⟨oP, eP, rfl⟩ := S.get0 hi
  refine kla_eval hdef (kla_makeFunction (mg := mg) hcl hge hg hcode C eP trivial rfl hgP hb fun c' ctv h' tk hx hgec hlt hrec htb => ?_)
  obtain ⟨c₂, oc, vs, t, e2, hoc, hd, hv⟩ := hrec
  cases e2
  have S1 := S.setExt (t := tk) (P' := fun o => ∃ ps, o = tabObj ps) hi (by lia) hx ⟨_, htb, _, rfl⟩
  have S2 := S1.more (a := c') (P := fun o => o = oc) ⟨oc, hoc, rfl⟩ (S.fresh hgec) (fun hm => S.off hgec (by
    have hmap : (N.set i (P, (fun o => ∃ ps, o = tabObj ps : OP))).map (·.1) = N.map (·.1) := by
      rw [List.map_set]
      apply List.ext_getElem?
      intro j
      rw [List.getElem?_set]
      by_cases q : i = j
      · subst q
        have e : i < (N.map (·.1)).length := by simpa using (List.getElem?_eq_some_iff.mp hi).1
        rw [if_pos rfl, if_pos e, List.getElem?_map, hi]; rfl
      · rw [if_neg q]
    rw [hmap] at hm; exact hm)) (.inl (Nat.le_trans S.size hgec))
  obtain ⟨o1, rfl, hf1, gr1, S3⟩ := S2.freeze (Nat.le_trans S.size hgec)
  have S4 := S3.push (t := tk) (o := kla_obj "<lambda>" (env.qual ++ "<lambda>") params body scope [] ((mg "__name__").getD .none) c' ctv) (P := fun o => o = kla_obj "<lambda>" (env.qual ++ "<lambda>") params body scope [] ((mg "__name__").getD .none) c' ctv) rfl rfl
  obtain ⟨o5, rfl, hf5, gr5, S5⟩ := S4.freeze S3.size
  refine h _ _ _ (gr1.trans gr5 (Nat.le_refl _)) ⟨_, c', ctv, ⟨_, Fz.add_self _ _ _, rfl⟩, fun hp k => ⟨c', o1, vs, t, rfl, k _ _ (gr5.1 _ _ (Fz.add_self _ _ _)), hd, hv⟩⟩ S5
theorem callLam {params : Arguments} {body : PySem.Expr} {scope : Scope} {qual : Str} {f : Addr} {args : List Value} {binds : List (Str × Value)} {k : Nat} (S : At K s₀ X F N s) (hm : Rm A (k + 1)) (hf : LamV F f qual params body scope)
    (hbind : ∀ pm c' ctv, bindArgs (kla_fn "<lambda>" qual params body scope [] pm c' ctv) ⟨args, []⟩ = pure binds) (hloc : ∀ y ∈ binds, scope.names.lookup y.1 = some .local) (hcell : ∀ x ∈ scope.names, x.2 ≠ .cell)
    (hco : scope.isCoroutine = false) (hgen : scope.isGenerator = false) (hk : scope.kind = .function)
    (h : ∀ L c' s', s.heap.objs.size ≤ L → At K s [] F [(L, NsO fun x => binds.reverse.lookup x)] s' → Rm (A.deeper (envX qual scope L f (.ref c') [])) k →
      wpAny (model prog w) (A.deeper (envX qual scope L f (.ref c') [])) (eval body (envX qual scope L f (.ref c') [])) Q NoE s') :
    wpAny (model prog w) A (call (.ref f) args) Q E s := by
  obtain ⟨pm, c', ctv, ⟨_, e, rfl⟩, hcd⟩ := hf.h
  have G := S.gl
  obtain ⟨p, loose, mg, mb, T⟩ := G.t
  refine wpAny_call (kla_callFunE hm.room (S.fz _ _ e) rfl hco hgen rfl (hcd _ S.fz) ?_)
  rw [hbind]
  refine wpAny_pure (wpAny_newFunctionEnv hcell hloc (fun h₁ hns hsb => ⟨T.nolimit.fresh _ hsb, ?_⟩) hk)
  show codeAny _ _ (.expr body (envX qual scope s.heap.objs.size f (.ref c') [])) _ _
  have hk₁ : ∀ b o, s.heap.get? b = some o → h₁.get? b = some o := fun b o e => hsb.extBut b o (Nat.ne_of_lt (Heap.lt_size e)) (Heap.get?_push_of_some _ e)
  obtain ⟨oL, hL, PL⟩ := ns_iff.mp hns
  refine kla_codeExpr (wpAny_mono (h s.heap.objs.size c' { s with heap := h₁, toks := s.toks + binds.length } (Nat.le_refl _) ?_ (hm.deeper _)) (fun v s' q => q) fun _ _ f => f.elim)
  refine ⟨S.top, ⟨rfl, rfl, rfl⟩, Nat.le_of_lt (Heap.lt_size hL), fun b o e _ => hk₁ b o e, fun b o e => hk₁ b o (S.fz b o e), fun q hq => ?_, by simp⟩
  rw [List.mem_singleton] at hq
  subst hq
  exact ⟨⟨oL, hL, PL⟩, S.fresh (Nat.le_refl _), .inl (Nat.le_refl _)⟩
end

-- C12
def RootB (prog : Program) (w : World) (F : Fz) (b : Bool) : (h : Nat) → Tr h → List (Str × Value) → Prop
  | 0, ns, kvs => ∃ l xs, kvs = [(wordS b, .ref l)] ∧ Has F l (ListO xs) ∧ RowF F b ns xs
  | h + 1, ks, kvs => ∃ l vs, kvs = [(kS, .ref l)] ∧ Has F l (ListO vs) ∧ Al (PreV prog w F b h) (ks : List (Tr h)) vs
theorem RootB.mono {prog : Program} {w : World} {F F' : Fz} {b : Bool} (l : F.le F') : ∀ {h : Nat} {t : Tr h} {kvs : List (Str × Value)}, RootB prog w F b h t kvs → RootB prog w F' b h t kvs
  | 0, _, _, ⟨l', xs, e, x, y⟩ => ⟨l', xs, e, x.mono l, y.mono l⟩
  | h + 1, _, _, ⟨l', vs, e, x, y⟩ => ⟨l', vs, e, x.mono l, y.mono fun _ _ z => z.mono l⟩
theorem Al.parts {α β : Type} {R : α → β → Prop} {xs : List α} {ys : List β} (h : Al R xs ys) (c : Nat) : Al (Al R) (partsOf xs c) (partsOf ys c) := by
  have hl := h.length
  unfold partsOf
  rw [hl]
  generalize List.range c = L
  induction L with
  | nil => exact .nil
  | cons i L ih => exact .cons ((h.drop _).take _) ih
theorem flatten_map2 {α β : Type} (f : α → List β) : ∀ (L : List (List α)), (L.map fun p => (p.map f).flatten).flatten = (L.flatten.map f).flatten
  | [] => rfl
  | p :: L => by rw [List.map_cons, List.flatten_cons, List.flatten_cons, List.map_append, List.flatten_append, flatten_map2 f L]
theorem sum_map2 {α : Type} (f : α → Nat) : ∀ (L : List (List α)), (L.map fun p => 1 + (p.map f).sum).sum = L.length + (L.flatten.map f).sum
  | [] => rfl
  | p :: L => by rw [List.map_cons, List.sum_cons, List.flatten_cons, List.map_append, List.sum_append, sum_map2 f L, List.length_cons]; lia
theorem ne_ends {α : Type} {l : List α} (h : l ≠ []) : (∃ a, l.head? = some a) ∧ ∃ b, l.getLast? = some b := by
  constructor
  · cases l with
    | nil => exact absurd rfl h
    | cons a l => exact ⟨a, rfl⟩
  · obtain ⟨us, u, rfl⟩ := List.eq_nil_or_concat l |>.resolve_left h
    exact ⟨u, by simp⟩
theorem ceil_facts {n w : Nat} (hn : 0 < n) (hw : 2 ≤ w) : 0 < (n + w - 1) / w ∧ (n + w - 1) / w ≤ n ∧ (2 ≤ n → (n + w - 1) / w < n) := by
  have hw0 : 0 < w := by lia
  refine ⟨Nat.div_pos (by lia) hw0, ?_, fun h2 => ?_⟩
  · rw [Nat.div_le_iff_le_mul_add_pred hw0]
    have : n * 1 ≤ w * n := by rw [Nat.mul_comm w n]; exact Nat.mul_le_mul_left n (by lia)
    lia
  · rw [Nat.div_lt_iff_lt_mul hw0]
    have : n * 2 ≤ n * w := Nat.mul_le_mul_left n hw
    have : n + w - 1 < n * w := by
      obtain ⟨a, rfl⟩ : ∃ a, n = a + 2 := ⟨n - 2, by lia⟩
      obtain ⟨b, rfl⟩ : ∃ b, w = b + 2 := ⟨w - 2, by lia⟩
      rw [Nat.add_mul, Nat.mul_add]
      have := Nat.zero_le (a * b)
      lia
    exact this
theorem eqKF {prog : Program} {w : World} {A : Around} {E : Value → Shared → Prop} {s : Shared} {Q : Value → Shared → Prop} {b : Bool} {r r' : Int} {v v' : Value} (h : RawK b r v) (h' : RawK b r' v') (hne : r ≠ r') (q : Q (.bool false) s) : wpAny (model prog w) A (compareOp .Eq v v') Q E s := by
  cases b with
  | true => obtain ⟨t, rfl⟩ := h; obtain ⟨u, rfl⟩ := h'; exact eqF hne q
  | false =>
    obtain ⟨t, rfl, a0, a1, a2⟩ := h; obtain ⟨u, rfl, b0, b1, b2⟩ := h'
    refine PySem.W.eq_bytes ?_
    have h1 := bsOf_inj r.toNat (by lia) r'.toNat (by lia) (by lia) (by lia)
    rw [h1, decide_eq_false (by lia)]
    exact q
theorem zip_rev {α β : Type} : ∀ {as : List α} {bs : List β}, as.length = bs.length → as.reverse.zip bs.reverse = (as.zip bs).reverse
  | [], [], _ => rfl
  | a :: as, b :: bs, h => by
    have h : as.length = bs.length := by simpa using h
    rw [List.reverse_cons, List.reverse_cons, List.zip_append (by simp [h]), zip_rev h]
    simp
section
variable {prog : Program} {w : World} {A : Around} {P : Params} {s₀ s : Shared} {X : List Addr} {F : Fz} {N : Led} {Q : Value → Shared → Prop} {E : Value → Shared → Prop} {K : Frag}
set_option maxHeartbeats 4000000 in
theorem tree_built_ {b : Bool} {tw tn : Tok} {l : Addr} {ns : List Nat} {ps : List Value} {wi : Nat} (S : At (hd.heap_1 P) s₀ X F N s) (hm : Rm A 6) {i : Nat} (hT : N[i]? = some (452, fun o => o = tabObj #[])) (hF : LamF F 454 452) (hl : Has F l (ListO ps)) (hp : Al (PairF F b) ns.reverse ps) (hs : Srt ns) (hne : ns ≠ []) (h13 : ns.length ≤ 30)
    (hw2 : 2 ≤ wi) (hw4 : wi ≤ 10)
    (hq : ∀ d F' s' h t kvs, Grow s.heap.objs.size F F' → HasD prog w F' d kvs → RootB prog w F' b h t kvs → flat h t = ns → h ≤ 30 → tsize h t ≤ 1000 → At (hd.heap_1 P) s₀ X F' ((452, fun o => ∃ ps, o = tabObj ps) :: N.eraseIdx i) s' → Q (.ref d) s') :
    wpAny (model prog w) A (call (.ref 455) [.ref l, .str (wordS b) tw, .int wi tn]) Q E s := by
  ((refine' enterC (U := [(452, fun o => o = tabObj #[])]) (binds := [(Str.ofString "pairs", Value.ref l), (Str.ofString "word", Value.str (wordS b) tw), (Str.ofString "width", Value.int wi tn)]) (cs := (fun L => [(L + 1, some (Value.str (wordS b) tw))])) ?Sq284 ?hmq284 ?hUq284 ?hUnq284 ?k1q284 ?k2q284 ?k3q284 ?k4q284 ?k5q284 ?k9q284 ?bodyq284 ?k6q284 ?k7q284 ?k8q284; (case Sq284 => assumption); (case hmq284 => assumption); (case k1q284 => k_is); (case k2q284 => k_is); (case k3q284 => exact BindsTo.of_eq rfl); (case k4q284 => exact rfl); (case k5q284 => decide); (case k9q284 => (intro _; exact rfl)); (case k6q284 => exact rfl); (case k7q284 => exact rfl); (case k8q284 => exact rfl)))
  case hUq284 => intro p hp; rw [List.mem_singleton] at hp; subst hp; exact List.mem_of_getElem? hT
  case hUnq284 => simp
  intro L s' hL S' hm'
  (repeat cell_call)
  refine ltF (by lia) ?_
  (repeat cell_call)
  refine wpAny_Call_Name_kw ?_
  (repeat cell_call)
  refine PyProof.Rows.callWith_kw ?_
  (repeat cell_call)
  refine wpAny_evalAll_cons ?_
  refine wpAny_bind ?_
  refine mkLam (c := 454) (P := 452) (i := 2) (by assumption) hF rfl rfl rfl rfl rfl fun f F1 s₁ g1 hf S₁ => ?_
  simp only [List.set_cons_zero, List.set_cons_succ] at S₁
  refine wpAny_bind (wpAny_standAt (wpAny_pure ?_))
  refine wpAny_evalAll_nil ?_
  have hpl := hp.length
  rw [List.length_reverse] at hpl
  have hp1 := hp.mono fun _ _ z => PairF.mono z g1.1
  refine rsSorted (rs := ns.reverse.map fun n : Nat => 3 * (n : Int)) (vs := ps) (b := b) S₁ (.inr (hl.mono g1.1)) (by rw [List.length_map, List.length_reverse]; exact hpl) (by lia) ?_ fun D s₂ out hD S₂ hout => ?_
  · intro j v r hv hr s₃ N3 S₃
    obtain ⟨n, hn, pa, pk, pt, rfl, hpt, hpk⟩ := hp1.get' hv
    rw [List.getElem?_map, hn] at hr
    cases hr
    refine callLam (k := 0) (binds := [(Str.ofString "pair", Value.ref pa)]) S₃ (hm'.in1.in1.mono (by decide)) hf (fun _ _ _ => rfl) (locs rfl) (by decide) rfl rfl rfl fun L2 c2 s₄ hL2 S₄ hm4 => ?_
    (repeat cell_call)
    refine subT (by assumption) (.inr hpt) (by decide) (by decide) rfl ?_ rfl
    exact ⟨hpk, S₃.ret0 (by assumption)⟩
  have hout : out = ps.reverse := by
    refine hout.uniq (by rw [List.length_map, List.length_reverse]; exact hpl) (rs' := ns.map fun n : Nat => 3 * (n : Int)) (by simp [hpl]) ?_ ?_
    · have e : ((ns.map fun n : Nat => 3 * (n : Int)).zip ps.reverse) = ((ns.reverse.map fun n : Nat => 3 * (n : Int)).zip ps).reverse := by
        rw [← zip_rev (by simp [hpl]), List.map_reverse, List.reverse_reverse]
      rw [e]
      exact List.reverse_perm _
    · exact List.pairwise_map.mpr (hs.imp fun h => by lia)
  subst hout
  obtain ⟨oD, poD, hfD, g2, S₃⟩ := S₂.freeze hD
  have g12 := g1.trans g2 (Nat.le_refl _)
  have hD2 : Has (F1.add D oD) D (ListO ps.reverse) := ⟨oD, Fz.add_self _ _ _, poD⟩
  have hp2 : Al (PairF (F1.add D oD) b) ns ps.reverse := by
    have := (hp1.mono fun _ _ z => PairF.mono z g2.1).reverse
    rwa [List.reverse_reverse] at this
  generalize hF2 : F1.add D oD = F2 at *
  have hrl : ps.reverse.length = ns.length := by rw [List.length_reverse, hpl]
  have hpos : 0 < ns.length := List.length_pos_iff.mpr hne
  generalize hrr : ps.reverse = rows at *
  clear S₁ S₂ S'
  (repeat cell_call)
  refine forI (K := hd.heap_1 P) (X := [452]) (s₀ := s) (by exact rfl) (by exact rfl) hL ?_
  (repeat cell_call)
  refine lenL (by assumption) (.inr hD2) (by lia) ?_
  intro _ _ _
  (repeat cell_call)
  refine range2 (by assumption) fun rr s₄ S₄ => ?_
  refine iterRange (n := ns.length - 1) S₄ (.inl (.head _)) (by lia) (by decide) (by decide) (by lia) (by lia) fun it s₅ hit S₅ => ?_
  refine ⟨it, _, ns.length - 1, _, _, F2, _, [(L + 1, CellO (some (Value.str (wordS b) tw))), (452, fun o => ∃ ps, o = tabObj ps)], fun i F' m N' => F' = F2 ∧ N' = [(L + 1, CellO (some (Value.str (wordS b) tw))), (452, fun o => ∃ ps, o = tabObj ps)] ∧ m (Str.ofString "rows") = some (.ref D) ∧ m (Str.ofString "width") = some (.int wi tn), rfl, srcR hm'.h hit, S₅.eraseIdx 1, ⟨rfl, rfl, rfl, rfl⟩, fun _ _ _ _ _ _ _ => trivial, ?_, ?_⟩
  · rintro i F' m N' u s₆ hi ⟨t1, rfl⟩ ⟨rfl, rfl, m1, m2⟩ S₆
    obtain ⟨n1, en1⟩ : ∃ n1, ns[i]? = some n1 := ⟨_, List.getElem?_eq_getElem (show i < ns.length by lia)⟩
    obtain ⟨n2, en2⟩ : ∃ n2, ns[i + 1]? = some n2 := ⟨_, List.getElem?_eq_getElem (show i + 1 < ns.length by lia)⟩
    have hlt : n1 < n2 := by
      obtain ⟨h1, rfl⟩ := List.getElem?_eq_some_iff.mp en1
      obtain ⟨h2, rfl⟩ := List.getElem?_eq_some_iff.mp en2
      exact (List.pairwise_iff_getElem.mp hs) i (i + 1) h1 h2 (by lia)
    obtain ⟨v1, ev1, a1, k1, t3, rfl, ha1, hk1⟩ := hp2.get en1
    obtain ⟨v2, ev2, a2, k2, t4, rfl, ha2, hk2⟩ := hp2.get en2
    (repeat cell_call)
    refine subI (by assumption) ?_
    intro _ _ _
    refine subL (by assumption) (.inr hD2) (by lia) (by lia) (by rw [show (1 + (i : Int) * 1 - 1).toNat = i from by lia]; exact ev1) ?_ rfl
    (repeat cell_call)
    refine subT (by assumption) (.inr ha1) (by decide) (by decide) rfl ?_ rfl
    (repeat cell_call)
    refine subL (by assumption) (.inr hD2) (by lia) (by lia) (by rw [show (1 + (i : Int) * 1).toNat = i + 1 from by lia]; exact ev2) ?_ rfl
    (repeat cell_call)
    refine subT (by assumption) (.inr ha2) (by decide) (by decide) rfl ?_ rfl
    refine eqKF hk1 hk2 (by lia) ?_
    (repeat cell_call)
    refine ⟨F', _, _, ?_, by assumption⟩
    exact ⟨rfl, rfl, m1, m2⟩
  · rintro F' m N' s₆ ⟨rfl, rfl, m1, m2⟩ S₆
    (repeat cell_call)
    refine lenL (by assumption) (.inr hD2) (by lia) ?_
    intro _ _ _
    (repeat cell_call)
    refine eqF (by lia) ?_
    (repeat cell_call)
    obtain ⟨hc0, hcl, _⟩ := ceil_facts hpos hw2
    have hrows : rows.length = ns.length := hrl
    refine compA0 (K := hd.heap_1 P) (X := [452]) (s₀ := s) rfl (by exact rfl) (by decide) rfl (by decide) (by exact rfl) (by exact rfl) (by exact rfl) ?_
    (repeat cell_call)
    refine even_parts_ (by assumption) (hm'.mono (by decide)) hD2 (by lia) (by lia) (by lia) (by lia) fun pl F3 pp s₇ hpl3 g3 hpp S₇ => ?_
    have g3 := g3.mono (n := s.heap.objs.size) (At.size (by assumption))
    rw [hrows] at hpp
    generalize hcc : (ns.length + wi - 1) / wi = c at *
    have hppl := hpp.length
    rw [parts_length] at hppl
    obtain ⟨o4, po4, hf4, gr4, S₇⟩ := S₇.freeze hpl3
    have hpl4 : Has (F3.add pl o4) pl (ListO pp) := ⟨o4, Fz.add_self _ _ _, po4⟩
    have hpp := hpp.mono fun _ _ z => PartV.mono z gr4.1
    have g4 := (g12.trans g3 (Nat.le_refl _)).trans gr4 (Nat.le_refl _)
    have hnp := (hp2.mono fun _ _ z => PairF.mono (PairF.mono z g3.1) gr4.1).parts c
    generalize hF4 : F3.add pl o4 = F4 at *
    refine iterL S₇ (.inr hpl4) fun it2 s₈ hit2 S₈ => ?_
    refine ⟨it2, _, pp.length, _, _, F4, _, _, fun i F5 ys => Grow s.heap.objs.size F4 F5 ∧ Al (PreV prog w F5 b 0) (List.take i (partsOf ns c)) ys, rfl, srcL (xs := pp) hm'.h hit2, small_sizeLine (by lia), S₈, ⟨Grow.refl _ _, .nil⟩, fun i F5 ys N5 hI hN => .inr (hpl4.mono hI.1.1), ?_, ?_⟩
    · rintro i F5 ys v mc C acc s₉ hi hv ⟨g5, hys⟩ S₉
      obtain ⟨part, epart, q, rfl, hq'⟩ := hpp.get' hv
      obtain ⟨np, enp, hnpp⟩ := hnp.get' epart
      have hpne := parts_ne ns c hc0 hcl np (List.mem_of_getElem? enp)
      obtain ⟨⟨r1, hr1⟩, ⟨r2, hr2⟩⟩ := ne_ends hpne
      have hnl : np.length ≤ 1000 := by
        have h1 := parts_flatten ns c hc0
        have h2 : np.length ≤ ((partsOf ns c).map List.length).sum := mem_sum_le (f := List.length) (List.mem_of_getElem? enp)
        rw [← List.length_flatten, h1] at h2
        lia
      show wpAny _ _ (pure true) _ _ _
      refine wpAny_pure ?_
      (repeat cell_call)
      refine leaf_node_ (by assumption) (hm'.mono (by decide)) (hq'.mono g5.1) (hnpp.mono fun _ _ z => PairF.mono z g5.1) hnl hr1 hr2 fun d F6 s10 kvs l' xs g6 hd6 hkeys hlim hrow hl6 hx6 hk6 S10 => ?_
      have g6 := g6.mono (n := s.heap.objs.size) (At.size (by assumption))
      refine ⟨F6, _, ⟨g5.trans g6 (Nat.le_refl _), ?_⟩, S10⟩
      refine Eq.subst (motive := fun z => Al (PreV prog w F6 b 0) z _) (take_snoc (α := Tr 0) enp).symm ?_
      exact (hys.mono fun _ _ z => PreV.mono z g6.1).snoc ⟨d, kvs, r1, r2, rfl, hd6, hr1, hr2, hlim, hkeys, l', xs, hrow, hl6, hx6⟩
    · rintro F5 ys acc s₉ ⟨g5, hys⟩ hlen5 hacc S₉
      obtain ⟨o5, po5, hf5, gr5, S₉⟩ := S₉.swap.freeze hacc
      have hnl5 : Has (F5.add acc o5) acc (ListO ys) := ⟨o5, Fz.add_self _ _ _, po5⟩
      have hys : Al (PreV prog w (F5.add acc o5) b 0) (partsOf ns c : List (Tr 0)) ys := by
        have h1 : List.take pp.length (partsOf ns c : List (Tr 0)) = partsOf ns c := List.take_of_length_le (by show (partsOf ns c).length ≤ _; rw [parts_length]; lia)
        exact (Eq.subst (motive := fun z => Al (PreV prog w F5 b 0) z ys) h1 hys).mono fun _ _ z => PreV.mono z gr5.1
      have gN := (g4.trans g5 (Nat.le_refl _)).trans gr5 (Nat.le_refl _)
      (repeat cell_call)
      refine wpAny_mono (Q := fun f sx => f = .next ∧ ∃ (h : Nat) (t : Tr h) (F6 : Fz) (nl : Addr) (v : Value) (m6 : Str → Option Value), At (hd.heap_1 P) s [452] F6 [(L, NsO m6), (L + 1, CellO (some (Value.str (wordS b) tw))), (452, fun o => ∃ ps, o = tabObj ps)] sx ∧ Grow s.heap.objs.size F F6 ∧ Has F6 nl (ListO [v]) ∧ PreV prog w F6 b h t v ∧ flat h t = ns ∧ h ≤ 30 ∧ tsize h t ≤ 1000 ∧
        m6 (Str.ofString "nodes") = some (.ref nl)) ?_ ?_ (fun _ _ f => f)
      · refine whileF (fun k sx => ∃ (h : Nat) (ks : List (Tr h)) (F6 : Fz) (nl : Addr) (vs : List Value) (m6 : Str → Option Value), At (hd.heap_1 P) s [452] F6 [(L, NsO m6), (L + 1, CellO (some (Value.str (wordS b) tw))), (452, fun o => ∃ ps, o = tabObj ps)] sx ∧ Grow s.heap.objs.size F F6 ∧ Has F6 nl (ListO vs) ∧ Al (PreV prog w F6 b h) ks vs ∧ (ks.map (flat h)).flatten = ns ∧ ks ≠ [] ∧ k = ks.length ∧ h + ks.length ≤ 30 ∧ (ks.map (tsize h)).sum ≤ (h + 1) * 30 ∧
          m6 (Str.ofString "nodes") = some (.ref nl) ∧ m6 (Str.ofString "width") = some (.int wi tn)) ?_ c ?_
        · rintro k sx ⟨h, ks, F6, nl, vs, m6, S10, g6, hnl6, hks, hfl, hkne, rfl, hhk, hsum, n1, n2⟩
          have hkl := hks.length
          have hkpos : 0 < ks.length := List.length_pos_iff.mpr hkne
          (repeat cell_call)
          refine lenL (by assumption) (.inr hnl6) (by lia) ?_
          intro _ _ _
          (repeat cell_call)
          by_cases h1 : 1 < ks.length
          · refine gtT (by lia) ?_
            (repeat cell_call)
            obtain ⟨hd0, hdl, hdlt⟩ := ceil_facts hkpos hw2
            have hdlt := hdlt (by lia)
            refine compA0 (K := hd.heap_1 P) (X := [452]) (s₀ := s) rfl (by exact rfl) (by decide) rfl (by decide) (by exact rfl) (by exact rfl) (by exact rfl) ?_
            (repeat cell_call)
            refine even_parts_ (by assumption) (hm'.mono (by decide)) hnl6 (by lia) (by lia) (by lia) (by lia) fun pl F7 pp s11 hpl7 g7 hpp S11 => ?_
            have g7 := g7.mono (n := s.heap.objs.size) (At.size (by assumption))
            rw [← hkl] at hpp
            generalize hcc2 : (ks.length + wi - 1) / wi = c2 at *
            have hppl := hpp.length
            rw [parts_length] at hppl
            obtain ⟨o8, po8, hf8, gr8, S11⟩ := S11.freeze hpl7
            have hpl8 : Has (F7.add pl o8) pl (ListO pp) := ⟨o8, Fz.add_self _ _ _, po8⟩
            have hpp := hpp.mono fun _ _ z => PartV.mono z gr8.1
            have g8 := (g6.trans g7 (Nat.le_refl _)).trans gr8 (Nat.le_refl _)
            have hnp := (hks.mono fun _ _ z => PreV.mono (PreV.mono z g7.1) gr8.1).parts c2
            generalize hF8 : F7.add pl o8 = F8 at *
            refine iterL S11 (.inr hpl8) fun it3 s12 hit3 S12 => ?_
            refine ⟨it3, _, pp.length, _, _, F8, _, _, fun i F9 ys => Grow s.heap.objs.size F8 F9 ∧ Al (PreV prog w F9 b (h + 1)) (List.take i (partsOf ks c2)) ys, rfl, srcL (xs := pp) hm'.h hit3, small_sizeLine (by lia), S12, ⟨Grow.refl _ _, .nil⟩, fun i F9 ys N5 hI hN => .inr (hpl8.mono hI.1.1), ?_, ?_⟩
            · rintro i F9 ys v mc C acc s13 hi hv ⟨g9, hys⟩ S13
              obtain ⟨part, epart, q, rfl, hq'⟩ := hpp.get' hv
              obtain ⟨np, enp, hnpp⟩ := hnp.get' epart
              have hpne := parts_ne ks c2 hd0 hdl np (List.mem_of_getElem? enp)
              have hnl : np.length ≤ 1000 := by
                have h1 := parts_flatten ks c2 hd0
                have h2 : np.length ≤ ((partsOf ks c2).map List.length).sum := mem_sum_le (f := List.length) (List.mem_of_getElem? enp)
                rw [← List.length_flatten, h1] at h2
                lia
              show wpAny _ _ (pure true) _ _ _
              refine wpAny_pure ?_
              (repeat cell_call)
              refine inner_node_ (by assumption) (hm'.mono (by decide)) (hq'.mono g9.1) (hnpp.mono fun _ _ z => PreV.mono z g9.1) hpne hnl fun v10 F10 s14 g10 hv10 S14 => ?_
              have g10 := g10.mono (n := s.heap.objs.size) (At.size (by assumption))
              refine ⟨F10, _, ⟨g9.trans g10 (Nat.le_refl _), ?_⟩, S14⟩
              refine Eq.subst (motive := fun z => Al (PreV prog w F10 b (h + 1)) z _) (take_snoc (α := Tr (h + 1)) enp).symm ?_
              exact (hys.mono fun _ _ z => PreV.mono z g10.1).snoc hv10
            · rintro F9 ys acc s13 ⟨g9, hys⟩ hlen9 hacc9 S13
              obtain ⟨o9, po9, hf9, gr9, S13⟩ := S13.swap.freeze hacc9
              have h1 : List.take pp.length (partsOf ks c2 : List (Tr (h + 1))) = partsOf ks c2 := List.take_of_length_le (by show (partsOf ks c2).length ≤ _; rw [parts_length]; lia)
              have hys := (Eq.subst (motive := fun z => Al (PreV prog w F9 b (h + 1)) z ys) h1 hys).mono fun _ _ z => PreV.mono z gr9.1
              have hsm := sum_map2 (tsize h) (partsOf ks c2)
              rw [parts_flatten ks c2 hd0, parts_length] at hsm
              (repeat cell_call)
              refine ⟨c2, hdlt, h + 1, partsOf ks c2, _, acc, ys, _, S13, (g8.trans g9 (Nat.le_refl _)).trans gr9 (Nat.le_refl _), ⟨o9, Fz.add_self _ _ _, po9⟩, hys, ?_, ?_, ?_, ?_, ?_, rfl, n2⟩
              · have := flatten_map2 (flat h) (partsOf ks c2)
                rw [parts_flatten ks c2 hd0, hfl] at this
                exact this
              · intro z
                have : (partsOf ks c2).length = 0 := congrArg List.length z
                rw [parts_length] at this; lia
              · exact (parts_length ks c2).symm
              · have : (partsOf ks c2).length = c2 := parts_length ks c2
                show h + 1 + (partsOf ks c2).length ≤ 30
                lia
              · show ((partsOf ks c2).map fun p => 1 + (p.map (tsize h)).sum).sum ≤ _
                rw [hsm]; lia
          · refine gtF (by lia) ?_
            (repeat cell_call)
            obtain ⟨t, rfl⟩ : ∃ t, ks = [t] := by
              match ks, hkpos, h1 with
              | [t], _, _ => exact ⟨t, rfl⟩
              | _ :: _ :: _, _, h1 => simp at h1
            cases hks with
            | cons hv hr =>
              cases hr
              rename_i S11 _
              refine ⟨rfl, h, t, F6, nl, _, m6, by assumption, g6, hnl6, hv, by simpa using hfl, by lia, ?_, n1⟩
              have : tsize h t ≤ (h + 1) * 30 := by simpa using hsum
              have : (h + 1) * 30 ≤ 30 * 30 := Nat.mul_le_mul_right 30 (by simp at hhk; lia)
              lia
        · refine ⟨0, partsOf ns c, _, acc, ys, _, S₉, gN, hnl5, hys, ?_, ?_, ?_, ?_, ?_, rfl, m2⟩
          · have : (List.map (fun x : List Nat => x) (partsOf ns c)).flatten = ns := by rw [List.map_id']; exact parts_flatten ns c hc0
            exact this
          · intro z
            have : (partsOf ns c).length = 0 := congrArg List.length z
            rw [parts_length] at this; lia
          · exact (parts_length ns c).symm
          · have : (partsOf ns c).length = c := parts_length ns c
            show 0 + (partsOf ns c).length ≤ 30
            lia
          · have : (partsOf ns c).length = c := parts_length ns c
            show (List.map (fun _ => 1) (partsOf ns c)).sum ≤ _
            rw [List.map_const', List.sum_replicate_nat]; lia
      · rintro f sx ⟨rfl, h, t, F6, nl, v, m6, S10, g6, hnl6, hv6, hfl6, hh6, hz6, n1⟩
        (repeat cell_call)
        refine subL (by assumption) (.inr hnl6) (by decide) (by decide) rfl ?_ rfl
        (repeat cell_call)
        obtain ⟨d, kvs, r1, r2, rfl, hd7, hr1, hr2, hlim, hpre⟩ := hv6
        have hfin : ∀ (k2 : Str) (v2 : Value) (F8 : Fz) (d' : Addr) (s11 : Shared), F6.le F8 → Grow s.heap.objs.size F F8 → HasD prog w F8 d' [(k2, v2)] → RootB prog w F8 b h t [(k2, v2)] → At (hd.heap_1 P) s [452] F8 [(L, NsO m6), (L + 1, CellO (some (Value.str (wordS b) tw))), (452, fun o => ∃ ps, o = tabObj ps)] s11 → Q (.ref d') s11 := by
          intro k2 v2 F8 d' s11 l8 g8 hd8 hr8 S11
          exact hq d' F8 s11 h t _ g8 hd8 hr8 hfl6 hh6 hz6 (At.back (U := [(452, fun o => o = tabObj #[])]) (V := N.eraseIdx i) (R := [(452, fun o => ∃ ps, o = tabObj ps)]) (S.up i hT) S11 g8 (by simp) (by simp) (by simp))
        cases h with
        | zero =>
          obtain ⟨hkeys, l9, xs9, e9, hl9, hx9⟩ := hpre
          refine as_root_ (by assumption) (hm'.mono (by decide)) hd7 hkeys (wordS_ne b) e9 fun d' F8 s11 g8 hd8 S11 => ?_
          have g8 := g8.mono (n := s.heap.objs.size) (At.size (by assumption))
          exact hfin _ _ F8 d' s11 g8.1 (g6.trans g8 (Nat.le_refl _)) hd8 ⟨l9, xs9, rfl, hl9.mono g8.1, hx9.mono g8.1⟩ S11
        | succ h =>
          obtain ⟨hkeys, l9, xs9, e9, hl9, hx9⟩ := hpre
          refine as_root_ (by assumption) (hm'.mono (by decide)) hd7 hkeys (by decide +kernel) e9 fun d' F8 s11 g8 hd8 S11 => ?_
          have g8 := g8.mono (n := s.heap.objs.size) (At.size (by assumption))
          exact hfin _ _ F8 d' s11 g8.1 (g6.trans g8 (Nat.le_refl _)) hd8 ⟨l9, xs9, rfl, hl9.mono g8.1, hx9.mono fun _ _ z => PreV.mono z g8.1⟩ S11
end

-- C13
theorem InstF.look {F : Fz} {x C : Addr} {l l' : List (Str × Value)} (h : InstF F x C l) (e : ∀ n, l.lookup n = l'.lookup n) : InstF F x C l' := by
  obtain ⟨dx, a, o, f, es, n, e1, z, g⟩ := h
  exact ⟨dx, a, o, f, es, n, e1, z, fun name => by rw [g, e]⟩
def TbOK (tb : List (Int × Value)) (n : Nat) : Prop := tb.length = n ∧ ∀ k : Int, (valueAt tb k).isSome = true ↔ (1 ≤ k ∧ k ≤ n)
theorem stored_new {tb : List (Int × Value)} {k : Int} {v : Value} (h : (valueAt tb k).isSome = false) : stored tb k v = tb ++ [(k, v)] := by
  have h1 : tb.any (fun kv => decide (kv.1 = k)) = false := by
    cases q : tb.any (fun kv => decide (kv.1 = k)) with
    | false => rfl
    | true =>
      obtain ⟨kv, hm, hk⟩ := List.any_eq_true.mp q
      have : (tb.find? fun kv => decide (kv.1 = k)).isSome = true := List.find?_isSome.mpr ⟨kv, hm, hk⟩
      unfold valueAt at h
      rw [Option.isSome_map, this] at h
      cases h
  unfold stored
  rw [h1]; rfl
theorem valueAt_snoc {tb : List (Int × Value)} {k k' : Int} {v : Value} : valueAt (tb ++ [(k, v)]) k' = match valueAt tb k' with | some x => some x | none => if k = k' then some v else none := by
  unfold valueAt
  rw [List.find?_append]
  cases q : tb.find? fun kv => decide (kv.1 = k') with
  | some x => simp
  | none =>
    by_cases e : k = k'
    · simp [e]
    · simp [e]
theorem TbOK.add {tb : List (Int × Value)} {n : Nat} (h : TbOK tb n) (v : Value) : TbOK (stored tb ((n : Int) + 1) v) (n + 1) ∧ valueAt (stored tb ((n : Int) + 1) v) ((n : Int) + 1) = some v ∧ ∀ k x, valueAt tb k = some x → valueAt (stored tb ((n : Int) + 1) v) k = some x := by
  have h0 : (valueAt tb ((n : Int) + 1)).isSome = false := by
    cases q : (valueAt tb ((n : Int) + 1)).isSome with
    | false => rfl
    | true => have := (h.2 _).mp q; lia
  rw [stored_new h0]
  have hn : valueAt tb ((n : Int) + 1) = none := by simpa using h0
  refine ⟨⟨by simp [h.1], fun k => ?_⟩, ?_, fun k x hx => ?_⟩
  · rw [valueAt_snoc]
    have hk := h.2 k
    cases q : valueAt tb k with
    | some x =>
      rw [q] at hk
      simp only [Option.isSome_some, true_iff] at hk ⊢
      push_cast; lia
    | none =>
      rw [q] at hk
      by_cases e : (n : Int) + 1 = k
      · simp only [e, if_true, Option.isSome_some, true_iff]; push_cast; lia
      · simp only [if_neg e, Option.isSome_none, Bool.false_eq_true, false_iff] at hk ⊢
        push_cast; lia
  · rw [valueAt_snoc, hn]; simp
  · rw [valueAt_snoc, hx]
section
variable {prog : Program} {w : World} {A : Around} {P : Params} {s₀ s : Shared} {X : List Addr} {F : Fz} {N : Led} {Q : Value → Shared → Prop} {E : Value → Shared → Prop} {K : Frag}
set_option maxHeartbeats 1000000 in
theorem mkRef {n : Int} {t u : Tok} (S : At (hd.heap_1 P) s₀ X F N s) (hm : Rm A 2) (h : ∀ v F' s', Grow s₀.heap.objs.size F F' → RefF F' v n → At (hd.heap_1 P) s₀ X F' N s' → Q v s') :
    wpAny (model prog w) A (call (.ref 254) [.int n t, .int 0 u]) Q E s := by
  ((refine' mkInst (C := 254) (fI := 244) (binds := (fun x => [(Str.ofString "self", Value.ref x), (Str.ofString "number", Value.int n t), (Str.ofString "generation", Value.int 0 u)])) ?Sq313 ?hmq313 ?k1q313 ?k2q313 ?k3q313 ?k4q313 ?k5q313 ?k6q313 ?k7q313 ?k8q313 ?bodyq313 ?k9q313 ?k10q313 ?k11q313; (case Sq313 => assumption); (case k1q313 => k_is); (case k2q313 => k_is); (case k3q313 => k_is); (case k4q313 => k_is); (case k5q313 => k_is); (case k6q313 => first | (intro _ _ _; exact BindsTo.of_eq rfl) | ((intro x9 s9 k9; refine' binds_K k9 ?hdq314 ?hoq314 ?hsq314 ?h1q314 ?h2q314; (case hdq314 => exact rfl); (case hoq314 => k_is); (case hsq314 => exact rfl); (case h1q314 => exact rfl); (case h2q314 => exact rfl)))); (case k7q313 => intro x; exact locs rfl); (case k8q313 => decide); (case k9q313 => exact rfl); (case k10q313 => exact rfl); (case k11q313 => exact rfl)))
  case hmq313 => exact hm
  intro x dx A' L s₁ s' S1 hdx hx hL h3 S' hm'
  (repeat cell_call)
  ((refine plainObj_wpAny_Assign_Attribute ?_ ?hswq316; (case hswq316 => exact rfl)))
  (repeat cell_call)
  ((refine' setA (i := 2) ?Sq318 ?xq318 ?iq318 ?lq318 ?aq318 ?bq318 ?cq318 ?dq318 ?_; (case Sq318 => assumption); (case iq318 => exact rfl); (case xq318 => exact .inl (by ((repeat (first | exact List.Mem.head _ | refine List.Mem.tail _ ?_))))); (case lq318 => simp); (case aq318 => k_is); (case bq318 => k_is); (case cq318 => k_is); (case dq318 => k_is); (intro _ S9; simp only [List.set_cons_zero, List.set_cons_succ] at S9)))
  (repeat cell_call)
  ((refine plainObj_wpAny_Assign_Attribute ?_ ?hswq321; (case hswq321 => exact rfl)))
  (repeat cell_call)
  ((refine' setA (i := 2) ?Sq323 ?xq323 ?iq323 ?lq323 ?aq323 ?bq323 ?cq323 ?dq323 ?_; (case Sq323 => assumption); (case iq323 => exact rfl); (case xq323 => exact .inl (by ((repeat (first | exact List.Mem.head _ | refine List.Mem.tail _ ?_))))); (case lq323 => simp); (case aq323 => k_is); (case bq323 => k_is); (case cq323 => k_is); (case dq323 => k_is); (intro _ S9; simp only [List.set_cons_zero, List.set_cons_succ] at S9)))
  (repeat cell_call)
  refine ⟨rfl, ?_⟩
  rename At _ _ _ _ _ _ => S9
  have hne : x ≠ dx := by have := S1.nodup; rw [List.map_cons, List.map_cons, List.nodup_cons] at this; exact fun e => this.1 (by rw [e]; exact .head _)
  obtain ⟨F', gr, hi, S10⟩ := freezeInst (l := [(Str.ofString "generation", .int 0 u), (Str.ofString "number", .int n t)]) (C := 254) (At.back (U := [(x, InstO 254 dx), (dx, AttrX [])]) (R := [(x, InstO 254 dx), (dx, AttrX _)]) S1 S9 (Grow.refl _ _) (by simp) (by simp) (by simpa using hne)) hx hdx (by simp)
  exact h _ F' _ gr ⟨x, u, t, rfl, hi⟩ S10
set_option maxHeartbeats 1000000 in
theorem add_ {sh T : Addr} {tb : List (Int × Value)} {n : Nat} {v : Value} (S : At (hd.heap_1 P) s₀ X F ((T, DictI prog w tb) :: N) s) (hm : Rm A 3) (hsh : ∃ tr, InstF F sh 363 [(Str.ofString "table", .ref T), (Str.ofString "trailer", .ref tr)]) (h3 : 3 < T) (htb : TbOK tb n) (hn : n ≤ 1000)
    (h : ∀ r F' s' e t, Grow s.heap.objs.size F F' → RefF F' r ((n : Int) + 1) → Has F' e (TupO [.int 0 t, v]) → At (hd.heap_1 P) s₀ X F' ((T, DictI prog w (stored tb ((n : Int) + 1) (.ref e))) :: N) s' → Q r s') :
    wpAny (model prog w) A (call (.ref 334) [.ref sh, v]) Q E s := by
  obtain ⟨tr, hsi⟩ := hsh
  refine' enter (U := [(T, DictI prog w tb)]) (binds := [(Str.ofString "self", Value.ref sh), (Str.ofString "value", v)]) S hm ?hU ?hUn ?k1 ?k2 ?k3 ?k4 ?k5 ?body ?k6 ?k7 ?k8
  case hU => intro p hp; rw [List.mem_singleton] at hp; subst hp; exact .head _
  case hUn => simp
  case k1 => k_is
  case k2 => k_is
  case k3 => exact BindsTo.of_eq rfl
  case k4 => exact locs rfl
  case k5 => decide
  case k6 => exact rfl
  case k7 => exact rfl
  case k8 => exact rfl
  intro L s' hL S' hm'
  (repeat cell_call)
  rename At _ _ _ _ _ _ => S₁
  refine wpAny_mono (Q := fun f sx => f = .next ∧ ∃ (m : Str → Option Value) (t : Tok), At (hd.heap_1 P) s [T] F [(L, NsO m), (T, DictI prog w tb)] sx ∧ m (Str.ofString "self") = some (.ref sh) ∧ m (Str.ofString "value") = some v ∧ m (Str.ofString "number") = some (.int ((n : Int) + 1) t)) ?_ ?_ (fun _ _ f => f)
  · refine whileF (fun k sx => ∃ (j : Nat) (m : Str → Option Value), At (hd.heap_1 P) s [T] F [(L, NsO m), (T, DictI prog w tb)] sx ∧ k = n - j ∧ j ≤ n ∧ m (Str.ofString "self") = some (.ref sh) ∧ m (Str.ofString "value") = some v ∧ ∃ t, m (Str.ofString "number") = some (.int ((j : Int) + 1) t)) ?_ n ?_
    · rintro k sx ⟨j, m, S₂, rfl, hj, m1, m2, t, m3⟩
      (repeat cell_call)
      refine atGet (by assumption) hsi.inst rfl (by k_is) (by k_is) (by k_is) rfl ?_
      intro _ _
      refine inDI (by assumption) (.inl (by ((repeat (first | exact List.Mem.head _ | refine List.Mem.tail _ ?_))))) (nosys h3) ?_
      intro _ S₃
      have hk := htb.2 ((j : Int) + 1)
      by_cases c : (valueAt tb ((j : Int) + 1)).isSome = true
      · rw [c]
        have := hk.mp c
        (repeat cell_call)
        refine addI (by assumption) ?_
        intro t9 _ _
        (repeat cell_call)
        rename At _ _ _ _ _ _ => S₄
        refine ⟨n - (j + 1), by lia, j + 1, _, S₄, rfl, by lia, ?_⟩
        exact ⟨m1, m2, t9, by push_cast; rfl⟩
      · have c' : (valueAt tb ((j : Int) + 1)).isSome = false := by simpa using c
        rw [c']
        (repeat cell_call)
        have : ¬ ((j : Int) + 1 ≤ n) := fun z => c (hk.mpr ⟨by lia, z⟩)
        obtain rfl : j = n := by lia
        exact ⟨rfl, m, t, S₃, m1, m2, m3⟩
    · refine ⟨0, _, S₁, rfl, Nat.zero_le _, ?_⟩
      exact ⟨rfl, rfl, _, rfl⟩
  · rintro f sx ⟨rfl, m, t, S₂, m1, m2, m3⟩
    (repeat cell_call)
    refine mkTup (by assumption) (by (exact small_sizeLine (by simp))) fun e s₃ he S₃ => ?_
    obtain ⟨o4, po4, hf4, gr4, S₄⟩ := S₃.freeze he
    (repeat cell_call)
    refine atGet (by assumption) (hsi.mono gr4.1).inst rfl (by k_is) (by k_is) (by k_is) rfl ?_
    intro _ _
    (repeat cell_call)
    refine setDI (i := 1) (by assumption) rfl (by rw [htb.1]; lia) ?_
    intro _ S₅
    simp only [List.set_cons_zero, List.set_cons_succ] at S₅
    (repeat cell_call)
    refine mkRef (by assumption) hm' fun r F6 s₆ g6 hr S₆ => ?_
    (repeat cell_call)
    have gg := gr4.trans g6 (Nat.le_refl _)
    exact h r F6 _ e _ gg hr (Has.mono ⟨o4, Fz.add_self _ _ _, po4⟩ g6.1) (At.back (U := [(T, DictI prog w tb)]) (V := N) (R := [(T, _)]) S S₆ gg (by simp) (by simp) (by simp))
end

-- C14
/-- what a dict ahead of its laying says, with or without its limits -/
def NodeB (prog : Program) (w : World) (F : Fz) (b : Bool) : (h : Nat) → Tr h → List (Str × Value) → Prop
  | 0, ns, kvs => valueAt kvs kS = none ∧ ∃ l xs, valueAt kvs (wordS b) = some (.ref l) ∧ Has F l (ListO xs) ∧ RowF F b ns xs
  | h + 1, ks, kvs => ∃ l vs, valueAt kvs kS = some (.ref l) ∧ Has F l (ListO vs) ∧ Al (PreV prog w F b h) (ks : List (Tr h)) vs
theorem NodeB.mono {prog : Program} {w : World} {F F' : Fz} {b : Bool} (l : F.le F') : ∀ {h : Nat} {t : Tr h} {kvs : List (Str × Value)}, NodeB prog w F b h t kvs → NodeB prog w F' b h t kvs
  | 0, _, _, ⟨e, l', xs, x, y, z⟩ => ⟨e, l', xs, x, y.mono l, z.mono l⟩
  | h + 1, _, _, ⟨l', vs, x, y, z⟩ => ⟨l', vs, x, y.mono l, z.mono fun t v ⟨d, kvs', r1, r2, a1, a2, a3, a4, a5, a6⟩ => ⟨d, kvs', r1, r2, a1, a2.mono l, a3, a4, a5.mono l, a6.mono l⟩⟩
theorem PreB.node {prog : Program} {w : World} {F : Fz} {b : Bool} : ∀ {h : Nat} {t : Tr h} {kvs : List (Str × Value)}, PreB prog w F b h t kvs → NodeB prog w F b h t kvs
  | 0, _, kvs, ⟨e, l', xs, x, y, z⟩ => ⟨by obtain ⟨a, c, rfl⟩ := kvs2 e; exact valueAt2n (by decide +kernel) (wordS_ne' b), l', xs, x, y, z⟩
  | h + 1, _, _, ⟨e, l', vs, x, y, z⟩ => ⟨l', vs, x, y, z⟩
theorem RootB.node {prog : Program} {w : World} {F : Fz} {b : Bool} : ∀ {h : Nat} {t : Tr h} {kvs : List (Str × Value)}, RootB prog w F b h t kvs → NodeB prog w F b h t kvs
  | 0, _, kvs, ⟨l', xs, e, y, z⟩ => ⟨by rw [e]; simp [valueAt, wordS_ne' b], l', xs, by rw [e]; simp [valueAt], y, z⟩
  | h + 1, _, _, ⟨l', vs, e, y, z⟩ => ⟨l', vs, by rw [e]; simp [valueAt], y, z⟩
theorem PreB.len {prog : Program} {w : World} {F : Fz} {b : Bool} : ∀ {h : Nat} {t : Tr h} {kvs : List (Str × Value)}, PreB prog w F b h t kvs → kvs.length = 2
  | 0, _, kvs, ⟨e, _⟩ => by have := congrArg List.length e; simpa using this
  | h + 1, _, kvs, ⟨e, _⟩ => by have := congrArg List.length e; simpa using this
theorem valueAt_stored {T : Type} [DecidableEq T] {kvs : List (T × Value)} {k k' : T} {v : Value} : valueAt (stored kvs k v) k' = if k' = k then some v else valueAt kvs k' := by
  unfold stored
  by_cases h : kvs.any (fun kv => decide (kv.1 = k)) = true
  · rw [if_pos h]
    unfold valueAt
    induction kvs with
    | nil => simp at h
    | cons x kvs ih =>
      by_cases hx : x.1 = k
      · by_cases e : k' = k
        · subst e; simp [hx]
        · rw [if_neg e]
          have hne : ¬ k = k' := fun z => e z.symm
          have hne2 : ¬ x.1 = k' := fun z => e (by rw [← z, hx])
          simp only [List.map_cons, hx, if_true, List.find?_cons, hne, decide_false, hne2]
          by_cases h2 : kvs.any (fun kv => decide (kv.1 = k)) = true
          · have := ih h2; rw [if_neg e] at this; exact this
          · have : kvs.map (fun kv => if kv.1 = k then (kv.1, v) else kv) = kvs := by
              have h2' : ∀ y ∈ kvs, ¬ y.1 = k := fun y hy z => h2 (List.any_eq_true.mpr ⟨y, hy, by simpa using z⟩)
              conv => rhs; rw [← List.map_id kvs]
              exact List.map_congr_left fun y hy => by simp [h2' y hy]
            rw [this]
      · have h2 : kvs.any (fun kv => decide (kv.1 = k)) = true := by simpa [hx] using h
        have := ih h2
        simp only [List.map_cons, if_neg hx, List.find?_cons]
        by_cases e : x.1 = k'
        · have : ¬ k' = k := fun z => hx (by rw [e, z])
          simp [e, this]
        · simp only [e, decide_false]; exact this
  · rw [if_neg h]
    have h1 : valueAt kvs k = none := by
      unfold valueAt
      rw [Option.map_eq_none_iff, List.find?_eq_none]
      intro y hy z
      exact h (List.any_eq_true.mpr ⟨y, hy, z⟩)
    unfold valueAt at h1 ⊢
    rw [List.find?_append]
    by_cases e : k' = k
    · subst e
      rw [Option.map_eq_none_iff] at h1
      simp [h1]
    · have e' : ¬ k = k' := fun z => e z.symm
      cases q : kvs.find? fun kv => decide (kv.1 = k') <;> simp [e, e']
theorem LimF.same {prog : Program} {w : World} {F : Fz} {b : Bool} {kvs kvs' : List (Str × Value)} {r1 r2 : Int} (h : LimF prog w F b kvs r1 r2) (e : valueAt kvs' (Str.ofString "Limits") = valueAt kvs (Str.ofString "Limits")) : LimF prog w F b kvs' r1 r2 :=
  let ⟨l, v1, v2, k1, k2, a1, r⟩ := h.h; ⟨l, v1, v2, k1, k2, e.trans a1, r⟩
section
variable {prog : Program} {w : World} {P : Params} {K : Frag}
set_option maxHeartbeats 4000000 in
theorem tree_laid_ {b : Bool} {sh T : Addr} (h3 : 3 < T) : ∀ (h : Nat) {A : Around} {s₀ s : Shared} {X : List Addr} {F : Fz} {N : Led} {Q : Value → Shared → Prop} {E : Value → Shared → Prop} {t : Tr h} {d : Addr} {kvs : List (Str × Value)} {tb : List (Int × Value)} {n : Nat}
    (_ : At (hd.heap_1 P) s₀ X F ((T, DictI prog w tb) :: N) s) (_ : Rm A (2 * h + 5)) (_ : ∃ tr, InstF F sh 363 [(Str.ofString "table", .ref T), (Str.ofString "trailer", .ref tr)]) (_ : TbOK tb n) (_ : n + tsize h t ≤ 1000) (_ : HasD prog w F d kvs) (_ : NodeB prog w F b h t kvs) (_ : kvs.length ≤ 10)
    (_ : ∀ d' F' s' kvs' tb' (n' : Nat), Grow s.heap.objs.size F F' → HasD prog w F' d' kvs' → (∀ k, k ≠ kS → valueAt kvs' k = valueAt kvs k) → Body prog w F' tb' b (fun _ => False) h ((n' : Int) + 1) t kvs' → TbOK tb' n' → n' + 1 = n + tsize h t → (∀ k x, valueAt tb k = some x → valueAt tb' k = some x) →
      At (hd.heap_1 P) s₀ X F' ((T, DictI prog w tb') :: N) s' → Q (.ref d') s'), wpAny (model prog w) A (call (.ref 460) [.ref sh, .ref d]) Q E s := by
  intro h
  induction h with
  | zero =>
    intro A s₀ s X F N Q E t d kvs tb n S hm hsh htb hn hdd hB hkl hq
    obtain ⟨hk0, l, xs, e1, e2, e3⟩ := hB
    ((refine' enterC (U := [(T, DictI prog w tb)]) (binds := [(Str.ofString "shelf", Value.ref sh), (Str.ofString "root", Value.ref d)]) (cs := (fun L => [(L + 1, some (Value.ref sh))])) ?Sq338 ?hmq338 ?hUq338 ?hUnq338 ?k1q338 ?k2q338 ?k3q338 ?k4q338 ?k5q338 ?k9q338 ?bodyq338 ?k6q338 ?k7q338 ?k8q338; (case Sq338 => assumption); (case hmq338 => assumption); (case k1q338 => k_is); (case k2q338 => k_is); (case k3q338 => exact BindsTo.of_eq rfl); (case k4q338 => exact rfl); (case k5q338 => decide); (case k9q338 => (intro _; exact rfl)); (case k6q338 => exact rfl); (case k7q338 => exact rfl); (case k8q338 => exact rfl)))
    case hUq338 => intro p hp; rw [List.mem_singleton] at hp; subst hp; exact .head _
    case hUnq338 => simp
    intro L s' hL S' hm'
    (repeat cell_call)
    refine notInDS (by assumption) (.inr hdd.h) (nosys hdd.n) ?_
    intro _ _
    rw [hk0]
    dsimp only [Option.isSome_some, Option.isSome_none]
    (repeat cell_call)
    refine copyDS (by assumption) (.inr hdd.h) (nosys hdd.n) (by lia) fun a s₂ ha ha3 S₂ => ?_
    obtain ⟨o, po, hf, gr, S₃⟩ := S₂.freeze ha
    exact hq a _ _ kvs tb n gr ⟨ha3, ⟨o, Fz.add_self _ _ _, po⟩⟩ (fun _ _ => rfl) ⟨hk0, .inr ⟨l, xs, e1, e2.mono gr.1, e3.mono gr.1⟩⟩ htb rfl (fun _ _ h => h)
      (At.back (U := [(T, DictI prog w tb)]) (V := N) (R := [(T, _)]) S S₃ gr (by simp) (by simp) (by simp))
  | succ h ih =>
    intro A s₀ s X F N Q E t d kvs tb n S hm hsh htb hn hdd hB hkl hq
    obtain ⟨ks, rfl⟩ : ∃ ks : List (Tr h), ks = t := ⟨t, rfl⟩
    obtain ⟨l, vs, e1, e2, e3⟩ := hB
    ((refine' enterC (U := [(T, DictI prog w tb)]) (binds := [(Str.ofString "shelf", Value.ref sh), (Str.ofString "root", Value.ref d)]) (cs := (fun L => [(L + 1, some (Value.ref sh))])) ?Sq341 ?hmq341 ?hUq341 ?hUnq341 ?k1q341 ?k2q341 ?k3q341 ?k4q341 ?k5q341 ?k9q341 ?bodyq341 ?k6q341 ?k7q341 ?k8q341; (case Sq341 => assumption); (case hmq341 => assumption); (case k1q341 => k_is); (case k2q341 => k_is); (case k3q341 => exact BindsTo.of_eq rfl); (case k4q341 => exact rfl); (case k5q341 => decide); (case k9q341 => (intro _; exact rfl)); (case k6q341 => exact rfl); (case k7q341 => exact rfl); (case k8q341 => exact rfl)))
    case hUq341 => intro p hp; rw [List.mem_singleton] at hp; subst hp; exact .head _
    case hUnq341 => simp
    intro L s' hL S' hm'
    (repeat cell_call)
    refine notInDS (by assumption) (.inr hdd.h) (nosys hdd.n) ?_
    intro _ _
    rw [e1]
    dsimp only [Option.isSome_some, Option.isSome_none]
    (repeat cell_call)
    refine copyDS (by assumption) (.inr hdd.h) (nosys hdd.n) (by lia) fun a s₂ ha ha3 S₂ => ?_
    have S₂ := S₂.swap
    (repeat cell_call)
    rename At _ _ _ _ _ _ => S₃
    obtain ⟨m0, hml, hmr, S₃⟩ : ∃ m0 : Str → Option Value, m0 (Str.ofString "laid") = some (.ref a) ∧ m0 (Str.ofString "root") = some (.ref d) ∧ At (hd.heap_1 P) s [T] F [(L, NsO m0), (a, DictS prog w kvs), (L + 1, CellO (some (Value.ref sh))), (T, DictI prog w tb)] _ := ⟨_, rfl, rfl, S₃⟩
    have hkl' : ks.length = vs.length := e3.length
    have hts : tsize (h + 1) ks = 1 + (ks.map (tsize h)).sum := rfl
    have hlk := len_le_sum (f := tsize h) (tsize_pos h) ks
    refine compE (K := hd.heap_1 P) (X := [T]) (s₀ := s) (by exact rfl) (by decide) rfl (by decide) (by exact rfl) ?_
    (repeat cell_call)
    refine subDS (by assumption) (.inr hdd.h) e1 ?_ rfl
    intro _ _
    refine iterL (by assumption) (.inr e2) fun it s₄ hit S₄ => ?_
    refine ⟨it, _, vs.length, _, _, F, _, fun i F' ys N' => ∃ (tb' : List (Int × Value)) (n' : Nat), N' = [(L, NsO m0), (a, DictS prog w kvs), (L + 1, CellO (some (Value.ref sh))), (T, DictI prog w tb')] ∧ Grow s.heap.objs.size F F' ∧ TbOK tb' n' ∧ n' = n + ((ks.take i).map (tsize h)).sum ∧ (∀ k x, valueAt tb k = some x → valueAt tb' k = some x) ∧
      Al (KidV prog w F' tb' b (fun _ => False) h ((n' : Int) + 1)) (ks.take i) ys, rfl, srcL (xs := vs) hm'.h hit, small_sizeLine (by lia), S₄, ⟨tb, n, rfl, Grow.refl _ _, htb, by simp, fun _ _ h => h, by simpa using .nil⟩, ?_, ?_, ?_⟩
    · rintro i F' ys N1 N' ⟨tb', n', rfl, g, _⟩ hN
      exact .inr (e2.mono g.1)
    · rintro i F' ys N' v mc C acc s₅ hi hv ⟨tb', n', rfl, g, htb', hn', hext, hys⟩ S₅
      obtain ⟨kt, ekt, d1, kvs1, r1, r2, rfl, hd1, hr1, hr2, hlim, hpre⟩ := e3.get' hv
      have hsm : ((ks.take (i + 1)).map (tsize h)).sum = ((ks.take i).map (tsize h)).sum + tsize h kt := by
        rw [take_snoc ekt, List.map_append, List.sum_append]; simp
      have hsl : ((ks.take (i + 1)).map (tsize h)).sum ≤ (ks.map (tsize h)).sum := sum_sub ((List.take_sublist _ _).map _)
      show wpAny _ _ (pure true) _ _ _
      refine wpAny_pure ?_
      (repeat cell_call)
      refine atMeth (by assumption) (InstF.inst (hsh.choose_spec.mono g.1)) rfl (by k_is) (by k_is) (by k_is) ?_
      (repeat cell_call)
      refine ih (S₅.up 6 rfl) (hm'.mono (by lia)) (let ⟨tr, z⟩ := hsh; ⟨tr, z.mono g.1⟩) htb' (by lia) (hd1.mono g.1) (hpre.node.mono g.1) (by rw [hpre.len]; decide) fun d2 F2 s₆ kvs2 tb2 n2 g2 hd2 hsame hbody htb2 hn2 hext2 S₆ => ?_
      have g2 := g2.mono (n := s.heap.objs.size) (At.size (by assumption))
      (repeat cell_call)
      refine add_ S₆ (hm'.mono (by lia)) (let ⟨tr, z⟩ := hsh; ⟨tr, (z.mono g.1).mono g2.1⟩) h3 htb2 (by lia) fun r F3 s₇ e t0 g3 hr he S₇ => ?_
      have g3 := g3.mono (n := s.heap.objs.size) (At.size (by assumption))
      have htb3 := htb2.add (.ref e)
      refine ⟨F3, (fun y => if y = Str.ofString "kid" then some (Value.ref d1) else mc y), [(L, NsO m0), (a, DictS prog w kvs), (L + 1, CellO (some (Value.ref sh))), (T, DictI prog w (stored tb2 ((n2 : Int) + 1) (.ref e)))], ⟨_, n2 + 1, rfl, (g.trans g2 (Nat.le_refl _)).trans g3 (Nat.le_refl _), htb3.1, by lia, fun k x hx => htb3.2.2 _ _ (hext2 _ _ (hext _ _ hx)), ?_⟩, ?_⟩
      · rw [take_snoc ekt]
        refine (hys.mono fun _ _ z => KidV.mono (g2.1.trans g3.1) (fun k x hx => htb3.2.2 _ _ (hext2 _ _ hx)) (by lia) z).snoc ?_
        exact ⟨(n2 : Int) + 1, e, d2, t0, kvs2, r1, r2, by lia, by push_cast; lia, hr, htb3.2.1, he, hd2.mono g3.1, hr1, hr2, ((hlim.mono ((g.1.trans g2.1).trans g3.1)).same (hsame _ (by decide +kernel))), hbody.mono g3.1 htb3.2.2 (Int.le_refl _)⟩
      · exact S₇.perm (List.perm_append_comm (l₁ := [(C, _), (it, _), (acc, _), (L, NsO m0), (a, DictS prog w kvs), (L + 1, CellO (some (Value.ref sh)))]) (l₂ := [(T, _)]))
    · rintro F' ys N' acc s₅ ⟨tb', n', rfl, g, htb', hn', hext, hys⟩ hlen hacc S₅
      rw [List.take_of_length_le (by lia)] at hys hn'
      obtain ⟨o6, po6, hf6, gr6, S₆⟩ := S₅.freeze hacc
      have g6 := g.trans gr6 (Nat.le_refl _)
      (repeat cell_call)
      refine setDS (i := 1) (by assumption) rfl (by lia) ?_
      intro _ S₇
      simp only [List.set_cons_zero, List.set_cons_succ] at S₇
      (repeat cell_call)
      obtain ⟨o8, po8, hf8, gr8, S₈⟩ := (S₇.up 1 rfl).freeze ha
      have g8 := g6.trans gr8 (Nat.le_refl _)
      refine hq a _ _ (stored kvs kS (.ref acc)) tb' n' g8 ⟨ha3, ⟨o8, Fz.add_self _ _ _, po8⟩⟩ (fun k hk => by rw [valueAt_stored, if_neg hk]) ⟨acc, ys, by rw [valueAt_stored, if_pos rfl], Has.mono ⟨o6, Fz.add_self _ _ _, po6⟩ gr8.1, hys.mono fun _ _ z => KidV.mono (gr6.1.trans gr8.1) (fun _ _ h => h) (Int.le_refl _) z⟩ htb' (by lia) hext
        (At.back (U := [(T, DictI prog w tb)]) (V := N) (R := [(T, DictI prog w tb')]) S S₈ g8 (by simp) (by simp) (by simp))
end

-- C15
section
variable {prog : Program} {w : World} {A : Around} {P : Params} {s₀ s : Shared} {X : List Addr} {F : Fz} {N : Led} {Q : Value → Shared → Prop} {E : Value → Shared → Prop} {K : Frag}
theorem setL {l : Addr} {xs : List Value} {k : Int} {t : Tok} {v : Value} {i : Nat} {Q : Unit → Shared → Prop} (S : At K s₀ X F N s) (hi : N[i]? = some (l, ListO xs)) (h0 : 0 ≤ k) (hk : k < 2 ^ 62) (hn : k < xs.length)
    (h : ∀ s', At K s₀ X F (N.set i (l, ListO (xs.set k.toNat v))) s' → Q () s') : wpAny (model prog w) A (setItem (.ref l) (.int k t) v) Q E s := by
  obtain ⟨o, e, n, rfl⟩ := S.get0 hi
  have hT : s.TypeIs (.ref l) "list" := ⟨_, e, rfl⟩
  have hk63 : k < 2 ^ 63 := by lia
  unfold setItem
  try with_reducible refine wpAny_holding ?_
  first | refine wpAny_bind (wpAny_pure ?_) | skip
  refine wpAny_bind (wpAny_sequenceKey hT (by decide) ?_)
  refine wpAny_bind (wpAny_callSpecial?_slot (name := Str.ofString "__setitem__") hT slot_list_setitem (wpAny_call_entry slot_list_setitem hT entry_list_setitem ?_ (args_list_setitem _ _ _)))
  show wpAny _ _ (Builtin.List.listSubscript? (.int k t) >>= _) _ _ s
  refine wpAny_bind (wpAny_listSubscript_int (fitsIndex_of h0 hk63) ?_)
  clear hk63 hk
  obtain ⟨j, rfl⟩ := Int.eq_ofNat_of_zero_le h0
  have hj : j < xs.toArray.size := by rw [List.size_toArray]; lia
  show wpAny _ _ ((seqItemAt l j >>= fun r => pure (r.map (j, ·))) >>= _) _ _ s
  refine wpAny_bind (wpAny_bind (wpAny_seqItemAt e rfl (wpAny_pure ?_)))
  rw [Array.getElem?_eq_getElem hj]
  show wpAny _ _ (setSeqItemAt l j v >>= _) _ _ s
  have S' := S.set (t := s.toks) (P' := ListO (xs.set j v)) (h' := s.heap.update l (Obj.mapSeq (·.setIfInBounds j v))) hi (Heap.SameBut.update ..) ⟨_, PyProof.Rows.get?_update_seq e (·.setIfInBounds j v), _, by rw [List.setIfInBounds_toArray]⟩
  refine wpAny_bind (wpAny_setSeqItemAt e rfl ?_)
  first
    | exact wpAny_bind (wpAny_pure (wpAny_pure ⟨.none, rfl, wpAny_pure (h _ S')⟩))
    | exact wpAny_pure ⟨.none, rfl, wpAny_pure (h _ S')⟩
theorem At.kept (S : At K s₀ X F N s) {h' : Heap} {t : Nat} (hN : ∃ p ∈ N, s₀.heap.objs.size ≤ p.1) (k : ∀ b o, s.heap.get? b = some o → h'.get? b = some o) : At K s₀ X F N { s with heap := h', toks := t } :=
  ⟨S.top, S.rest, by
    obtain ⟨p, hp, hle⟩ := hN
    obtain ⟨⟨o, e, _⟩, _⟩ := S.news p hp
    exact Nat.le_of_lt (Nat.lt_of_le_of_lt hle (Heap.lt_size (k _ _ e))), fun b o e n => k b o (S.ext b o e n), fun b o e => k b o (S.fz b o e), fun p hp => let ⟨⟨o, e, q⟩, r⟩ := S.news p hp; ⟨⟨o, k _ _ e, q⟩, r⟩, S.nodup⟩

theorem mkBytes {l : Addr} {vs : List Value} {ns : List Int} (hh : A.handled = none) (S : At K s₀ X F N s) (hN : ∃ p ∈ N, s₀.heap.objs.size ≤ p.1) (hl : Here F N l (ListO vs)) (hi : IntsAre vs ns) (hr : ∀ n ∈ ns, 0 ≤ n ∧ n < 256) (hz : vs.length ≤ 100000)
    (h : ∀ t s', At K s₀ X F N s' → Q (.bytes (byteArr ns) t) s') : wpAny (model prog w) A (call (.type "bytes") [.ref l]) Q E s :=
  call_bytes_ints (S.isList hl) hi hr (small_sizeLine hz) hh fun h' t k hk => h t _ (S.kept hN hk)
def PoolOK (xs : List Value) : Prop := xs.length ≤ 24 ∧ ∀ v ∈ xs, ∃ i t, v = .int i t ∧ 0 ≤ i
set_option maxHeartbeats 1000000 in
theorem law_take_ {pl : Addr} {xs : List Value} {many : Nat} {tm : Tok} (S : At (hd.heap_1 P) s₀ X F ((pl, ListO xs) :: N) s) (hm : Rm A 1) (hp : PoolOK xs) (h0 : 0 < many) (hm' : many ≤ 1000)
    (h : ∀ (k : Nat) t xs' s', k < many → PoolOK xs' → At (hd.heap_1 P) s₀ X F ((pl, ListO xs') :: N) s' → Q (.int k t) s') : wpAny (model prog w) A (call (.ref 467) [.ref pl, .int many tm]) Q E s := by
  refine' enter (U := [(pl, ListO xs)]) (binds := [(Str.ofString "pool", Value.ref pl), (Str.ofString "many", Value.int many tm)]) S hm ?hU ?hUn ?k1 ?k2 ?k3 ?k4 ?k5 ?body ?k6 ?k7 ?k8
  case hU => intro p hp; rw [List.mem_singleton] at hp; subst hp; exact .head _
  case hUn => simp
  case k1 => k_is
  case k2 => k_is
  case k3 => exact BindsTo.of_eq rfl
  case k4 => exact locs rfl
  case k5 => decide
  case k6 => exact rfl
  case k7 => exact rfl
  case k8 => exact rfl
  intro L s' hL S' hm2
  have hback : ∀ {xs' : List Value} {s'' : Shared} {m : Str → Option Value}, At (hd.heap_1 P) s [pl] F [(L, NsO m), (pl, ListO xs')] s'' → At (hd.heap_1 P) s₀ X F ((pl, ListO xs') :: N) s'' := fun S9 =>
    At.back (U := [(pl, ListO xs)]) (V := N) (R := [(pl, _)]) S S9 (Grow.refl _ _) (by simp) (by simp) (by simp)
  (repeat cell_call)
  refine lenL (by assumption) (.inl (by ((repeat (first | exact List.Mem.head _ | refine List.Mem.tail _ ?_))))) (by have := hp.1; lia) ?_
  intro _ _ _
  (repeat cell_call)
  cases xs with
  | nil =>
    refine eqT rfl ?_
    (repeat cell_call)
    exact h 0 _ [] _ h0 ⟨by simp, fun _ h => nomatch h⟩ (hback (by assumption))
  | cons x xs =>
    obtain ⟨i, t0, rfl, hi⟩ := hp.2 x (.head _)
    have hxs : PoolOK xs := ⟨by have := hp.1; simp only [List.length_cons] at this; lia, fun v hv => hp.2 v (.tail _ hv)⟩
    refine eqF (by simp only [List.length_cons]; lia) ?_
    (repeat cell_call)
    refine subL (by assumption) (.inl (by ((repeat (first | exact List.Mem.head _ | refine List.Mem.tail _ ?_))))) (by decide) (by decide) rfl ?_ rfl
    (repeat cell_call)
    refine modI (by assumption) (by lia) ?_
    intro _ _ _
    have hmod : i % (many : Int) = ((i % (many : Int)).toNat : Int) := by have := Int.emod_nonneg i (show (many : Int) ≠ 0 by lia); lia
    have hlt : (i % (many : Int)).toNat < many := by have := Int.emod_lt_of_pos i (show (0 : Int) < many by lia); lia
    rw [hmod]
    (repeat cell_call)
    refine subL (by assumption) (.inl (by ((repeat (first | exact List.Mem.head _ | refine List.Mem.tail _ ?_))))) (by decide) (by decide) rfl ?_ rfl
    (repeat cell_call)
    refine fdivI (by assumption) (by lia) (by lia) ?_
    intro t9 _ _
    (repeat cell_call)
    refine setL (i := 1) (by assumption) rfl (by decide) (by decide) (by simp only [List.length_cons]; lia) ?_
    intro _ S₄
    simp only [List.set_cons_zero, List.set_cons_succ] at S₄
    (repeat cell_call)
    refine subL (by assumption) (.inl (by ((repeat (first | exact List.Mem.head _ | refine List.Mem.tail _ ?_))))) (by decide) (by decide) rfl ?_ rfl
    (repeat cell_call)
    by_cases hz : i / (many : Int) = 0
    · refine eqT hz ?_
      (repeat cell_call)
      refine methL PySem.F.slot_list_pop (by kernel_rfl) (by assumption) (.inl (by ((repeat (first | exact List.Mem.head _ | refine List.Mem.tail _ ?_))))) ?_
      (repeat cell_call)
      rename At _ _ _ _ _ _ => S5
      refine pop0L (i := 1) S5 rfl (by have := hxs.1; lia) ?_
      intro _ S₆
      simp only [List.set_cons_zero, List.set_cons_succ] at S₆
      (repeat cell_call)
      exact h _ _ xs _ hlt hxs (hback S₆)
    · refine eqF hz ?_
      (repeat cell_call)
      refine h _ _ _ _ hlt ⟨?_, ?_⟩ (hback (by assumption))
      · have := hp.1; simpa using this
      · intro v hv
        rcases List.mem_cons.mp hv with rfl | hv
        · exact ⟨_, t9, rfl, Int.ediv_nonneg hi (by lia)⟩
        · exact hxs.2 v hv
end

-- C16
def rkb (b : Bool) (n : Nat) : Int := if b then (n : Int) else if n % 3 = 2 then (n : Int) - 1 else n
theorem key_bytes : ∀ n : Nat, n < 21 → byteArr [97 + (n : Int) / 7, 97 + (n : Int) % 7] = bsOf (3 * (n : Int)).toNat := by decide +kernel
theorem bound_bytes0 : ∀ n : Nat, n < 62 → n % 3 = 0 → byteArr [97 + (n : Int) / 21, 97 + (n : Int) / 3 % 7] ++ #[] = bsOf (rkb false n).toNat := by decide +kernel
theorem bound_bytes1 : ∀ n : Nat, n < 62 → n % 3 ≠ 0 → byteArr [97 + (n : Int) / 21, 97 + (n : Int) / 3 % 7] ++ #[48] = bsOf (rkb false n).toNat := by decide +kernel
theorem bound_size : ∀ n : Nat, n < 62 → (byteArr [97 + (n : Int) / 21, 97 + (n : Int) / 3 % 7]).size = 2 := fun n _ => byteArr_size _
section
variable {prog : Program} {w : World} {A : Around} {P : Params} {s₀ s : Shared} {X : List Addr} {F : Fz} {N : Led} {Q : Value → Shared → Prop} {E : Value → Shared → Prop} {K : Frag}
theorem mulI {a b : Int} {t u : Tok} (S : At K s₀ X F N s) (hb : Builtin.Int.intBits b ≤ 64) (h : ∀ t s', At K s₀ X F N s' → Q (.int (a * b) t) s') : wpAny (model prog w) A (binaryOp .Mult (.int a t) (.int b u)) Q E s :=
  PyProof.Rows.mul_int (h _ _ (S.toks _)) (IntMulOk.of_right hb)
set_option maxHeartbeats 1000000 in
theorem law_key_ {b : Bool} {t u : Tok} {n : Nat} (S : At (hd.heap_1 P) s₀ X F N s) (hm : Rm A 1) (hn : n ≤ 20) (h : ∀ v s', RawK b (3 * (n : Int)) v → At (hd.heap_1 P) s₀ X F N s' → Q v s') : wpAny (model prog w) A (call (.ref 474) [.str (wordS b) t, .int n u]) Q E s := by
  ((refine' enter (U := []) (binds := [(Str.ofString "word", Value.str (wordS b) t), (Str.ofString "number", Value.int n u)]) ?Sq370 ?hmq370 ?hUq370 ?hUnq370 ?k1q370 ?k2q370 ?k3q370 ?k4q370 ?k5q370 ?bodyq370 ?k6q370 ?k7q370 ?k8q370; (case Sq370 => assumption); (case hmq370 => assumption); (case hUq370 => exact fun _ h => nomatch h); (case hUnq370 => exact List.nodup_nil); (case k1q370 => k_is); (case k2q370 => k_is); (case k3q370 => exact BindsTo.of_eq rfl); (case k4q370 => exact locs rfl); (case k5q370 => decide); (case k6q370 => exact rfl); (case k7q370 => exact rfl); (case k8q370 => exact rfl)))
  intro L s' hL S' hm'
  (repeat cell_call)
  refine eq_str ?_
  cases b with
  | true =>
    rw [show (wordS true == Str.ofString "Nums") = true from by decide +kernel]
    (repeat cell_call)
    refine mulI (by assumption) (by decide) ?_
    intro t9 _ _
    exact h _ _ ⟨t9, by rw [Int.mul_comm]⟩ (S.ret0 (by assumption))
  | false =>
    rw [show (wordS false == Str.ofString "Nums") = false from by decide +kernel]
    (repeat cell_call)
    refine fdivI (by assumption) (by decide) (by decide) ?_
    intro _ _ _
    refine addI (by assumption) ?_
    intro _ _ _
    (repeat cell_call)
    refine modI (by assumption) (by decide) ?_
    intro _ _ _
    refine addI (by assumption) ?_
    intro _ _ _
    (repeat cell_call)
    refine mkList (by assumption) (by (exact small_sizeLine (by simp))) fun l s₂ hl S₂ => ?_
    (repeat cell_call)
    refine mkBytes hm'.h S₂ ⟨_, .head _, hl⟩ (.inl (.head _)) (.cons _ _ (.cons _ _ .nil)) (by simp; omega) (by simp) fun t9 s₃ S₃ => ?_
    exact h _ _ ⟨t9, by rw [key_bytes n (by omega)], by omega, by omega, by omega⟩ (S.ret0 S₃)
set_option maxHeartbeats 1000000 in
theorem law_bound_ {b : Bool} {t u : Tok} {n : Nat} (S : At (hd.heap_1 P) s₀ X F N s) (hm : Rm A 1) (hn : n < 62) (h : ∀ v s', RawK b (rkb b n) v → At (hd.heap_1 P) s₀ X F N s' → Q v s') : wpAny (model prog w) A (call (.ref 481) [.str (wordS b) t, .int n u]) Q E s := by
  ((refine' enter (U := []) (binds := [(Str.ofString "word", Value.str (wordS b) t), (Str.ofString "number", Value.int n u)]) ?Sq378 ?hmq378 ?hUq378 ?hUnq378 ?k1q378 ?k2q378 ?k3q378 ?k4q378 ?k5q378 ?bodyq378 ?k6q378 ?k7q378 ?k8q378; (case Sq378 => assumption); (case hmq378 => assumption); (case hUq378 => exact fun _ h => nomatch h); (case hUnq378 => exact List.nodup_nil); (case k1q378 => k_is); (case k2q378 => k_is); (case k3q378 => exact BindsTo.of_eq rfl); (case k4q378 => exact locs rfl); (case k5q378 => decide); (case k6q378 => exact rfl); (case k7q378 => exact rfl); (case k8q378 => exact rfl)))
  intro L s' hL S' hm'
  (repeat cell_call)
  refine eq_str ?_
  cases b with
  | true =>
    rw [show (wordS true == Str.ofString "Nums") = true from by decide +kernel]
    (repeat cell_call)
    exact h _ _ ⟨u, rfl⟩ (S.ret0 (by assumption))
  | false =>
    rw [show (wordS false == Str.ofString "Nums") = false from by decide +kernel]
    (repeat cell_call)
    refine fdivI (by assumption) (by decide) (by decide) ?_
    intro _ _ _
    refine addI (by assumption) ?_
    intro _ _ _
    (repeat cell_call)
    refine fdivI (by assumption) (by decide) (by decide) ?_
    intro _ _ _
    (repeat cell_call)
    refine modI (by assumption) (by decide) ?_
    intro _ _ _
    refine addI (by assumption) ?_
    intro _ _ _
    (repeat cell_call)
    refine mkList (by assumption) (by (exact small_sizeLine (by simp))) fun l s₂ hl S₂ => ?_
    (repeat cell_call)
    refine mkBytes hm'.h S₂ ⟨_, .head _, hl⟩ (.inl (.head _)) (.cons _ _ (.cons _ _ .nil)) (by simp; omega) (by simp) fun t9 s₃ S₃ => ?_
    have S₃ := S₃.tail
    (repeat cell_call)
    refine modI (by assumption) (by decide) ?_
    intro _ _ _
    (repeat cell_call)
    by_cases c : n % 3 = 0
    · refine gtF (by omega) ?_
      (repeat cell_call)
      refine PySem.W.Constant_bytes ?_
      refine PySem.W.KBy.add_bytes (by rw [bound_size n hn]; decide) fun t8 k => ?_
      rename At _ _ _ _ _ _ => S9
      exact h _ _ ⟨t8, by rw [show ([] : List UInt8).toArray = #[] from rfl, bound_bytes0 n hn c], by unfold rkb; simp; omega, by unfold rkb; simp; omega, by unfold rkb; simp; omega⟩ (S.ret0 ((S9.toks _).toks _))
    · refine gtT (by omega) ?_
      (repeat cell_call)
      refine PySem.W.Constant_bytes ?_
      refine PySem.W.KBy.add_bytes (by rw [bound_size n hn]; decide) fun t8 k => ?_
      rename At _ _ _ _ _ _ => S9
      exact h _ _ ⟨t8, by rw [show ([48] : List UInt8).toArray = #[48] from rfl, bound_bytes1 n hn c], by unfold rkb; simp; omega, by unfold rkb; simp; omega, by unfold rkb; simp; omega⟩ (S.ret0 ((S9.toks _).toks _))
end

-- C17
section
variable {prog : Program} {w : World} {A : Around} {P : Params} {s₀ s : Shared} {X : List Addr} {F : Fz} {N : Led} {Q : Value → Shared → Prop} {E : Value → Shared → Prop} {K : Frag}
theorem copyL {l : Addr} {xs : List Value} (S : At K s₀ X F N s) (hN : ∃ p ∈ N, s₀.heap.objs.size ≤ p.1) (hl : Here F N l (ListO xs)) (hz : xs.length ≤ 100000) (h : ∀ a s', s₀.heap.objs.size ≤ a → At K s₀ X F ((a, ListO xs) :: N) s' → Q (.ref a) s') : wpAny (model prog w) A (call (.type "list") [.ref l]) Q E s := by
  obtain ⟨o, e, n, rfl⟩ := S.here hl
  refine call_list_seq l (.inl rfl) e rfl rfl (fun h' c' hk hD => h _ _ S.size ?_) (by rw [List.size_toArray]; exact small_sizeLine hz)
  exact (S.kept (t := s.toks) hN hk).more ⟨_, hD, c', rfl⟩ (S.fresh (Nat.le_refl _)) (S.off (Nat.le_refl _)) (.inl S.size)
theorem unpackI {t : Addr} {xs : List Value} {Q : List Value → Shared → Prop} (hh : A.handled = none) (S : At K s₀ X F N s) (hl : Here F N t (TupO xs)) (hN : ∃ p ∈ N, s₀.heap.objs.size ≤ p.1)
    (h : ∀ s', At K s₀ X F N s' → Q xs s') : wpAny (model prog w) A (unpackItems (.ref t) xs.length none) Q E s := by
  have := wpAny_unpackItems_tuple (Q := Q) (E := E) (prog := prog) (w := w) hh (S.isTuple hl) fun h' he => ?_
  · rwa [List.size_toArray] at this
  · refine h { s with heap := h' } ?_
    obtain ⟨p, hp, hle⟩ := hN
    refine ⟨S.top, S.rest, ?_, fun b o e n => he b o (Nat.ne_of_lt (Heap.lt_size (S.ext b o e n))) (S.ext b o e n), fun b o e => he b o (Nat.ne_of_lt (Heap.lt_size (S.fz b o e))) (S.fz b o e), fun q hq => ?_, S.nodup⟩
    · obtain ⟨⟨o, e, _⟩, _⟩ := S.news p hp
      exact Nat.le_of_lt (Nat.lt_of_le_of_lt hle (Heap.lt_size (he _ _ (Nat.ne_of_lt (Heap.lt_size e)) e)))
    · obtain ⟨⟨o, e, r⟩, x⟩ := S.news q hq
      exact ⟨⟨o, he _ _ (Nat.ne_of_lt (Heap.lt_size e)) e, r⟩, x⟩
theorem At.isListH (S : At K s₀ X F N s) {l : Addr} {xs : List Value} (h : Here F N l (ListO xs)) : s.heap.IsList l xs.toArray := S.isList h
theorem neNil {l e : Addr} {xs : List Value} (S : At K s₀ X F N s) (hl : Here F N l (ListO xs)) (he : Here F N e (ListO [])) (hu : A.units < cLine) (h : Q (.bool (!xs.isEmpty)) s) : wpAny (model prog w) A (compareOp .NotEq (.ref l) (.ref e)) Q E s := by
  show wpAny _ A (richCompare .NotEq _ _) Q E s
  cases xs with
  | nil => exact SeqAt.RcNeAt.lists (e := fun _ => true) (S.isList hl) (S.isList he) rfl hu (fun j h1 => absurd h1 (by simp)) prog w E Q (by simpa using h)
  | cons x xs => exact SeqAt.RcNeAt.lists_lengths (S.isList hl) (S.isList he) (by simp) hu prog w E Q (by simpa using h)
theorem Al.uncons {α β : Type} {R : α → β → Prop} {xs : List α} {y : β} {ys : List β} (h : Al R xs (y :: ys)) : ∃ x xs', xs = x :: xs' ∧ R x y ∧ Al R xs' ys := by
  cases h with
  | cons a b => exact ⟨_, _, rfl, a, b⟩
def NdL (z : List Nat) : Prop := z.Nodup ∧ z.length ≤ 1000
theorem NdL.perm {z z' : List Nat} (h : z.Perm z') (n : NdL z) : NdL z' := ⟨h.nodup n.1, by rw [← h.length_eq]; exact n.2⟩
def KidP (prog : Program) (w : World) (F : Fz) (tb : List (Int × Value)) (b : Bool) (p : Σ h, Tr h) (v : Value) : Prop := ∃ m, KidV prog w F tb b (fun _ => False) p.1 m p.2 v
set_option maxHeartbeats 4000000 in
theorem law_leaves_ {F₀ : Fz} {sh T d : Addr} {tb : List (Int × Value)} {b : Bool} {h : Nat} {t : Tr h} {m : Int} {kvs : List (Str × Value)} (S : At (hd.heap_1 P) s₀ X F N s) (hm : Rm A 4) (l0 : F₀.le F) (hs : ShF prog w F sh T tb) (hdd : HasD prog w F d kvs) (hb : Body prog w F₀ tb b (fun _ => False) h m t kvs) (hz : tsize h t ≤ 1000) (hnd : NdL (flat h t))
    (hq : ∀ a fs nss s', s₀.heap.objs.size ≤ a → fs.length ≤ 1000 → Al (fun (ns : List Nat) v => ∃ m : Int, KidV prog w F₀ tb b (fun _ => False) 0 m ns v) nss fs → NdL nss.flatten → At (hd.heap_1 P) s₀ X F ((a, ListO fs) :: N) s' → Q (.ref a) s') :
    wpAny (model prog w) A (call (.ref 488) [.ref sh, .ref d]) Q E s := by
  have mk : Mk := .mk
  obtain ⟨tr, hsi⟩ := hs.i
  ((refine' enter (U := []) (binds := [(Str.ofString "shelf", Value.ref sh), (Str.ofString "root", Value.ref d)]) ?Sq391 ?hmq391 ?hUq391 ?hUnq391 ?k1q391 ?k2q391 ?k3q391 ?k4q391 ?k5q391 ?bodyq391 ?k6q391 ?k7q391 ?k8q391; (case Sq391 => assumption); (case hmq391 => assumption); (case hUq391 => exact fun _ h => nomatch h); (case hUnq391 => exact List.nodup_nil); (case k1q391 => k_is); (case k2q391 => k_is); (case k3q391 => exact BindsTo.of_eq rfl); (case k4q391 => exact locs rfl); (case k5q391 => decide); (case k6q391 => exact rfl); (case k7q391 => exact rfl); (case k8q391 => exact rfl)))
  intro L s' hL S' hm'
  (repeat cell_call)
  refine Assign_Tuple_swapped (names := [Str.ofString "found", Str.ofString "line"]) ?_ ?hs ?hw
  case hs => exact rfl
  case hw => exact rfl
  (repeat cell_call)
  refine mkList (by assumption) (by (exact small_sizeLine (by simp))) fun fl s₁ hfl S₁ => ?_
  have S₁ := S₁.swap
  (repeat cell_call)
  refine methD PySem.F.slot_dict_get (by kernel_rfl) (by assumption) exactS (.inr hdd.h) ?_
  (repeat cell_call)
  refine mkList (by assumption) (by (exact small_sizeLine (by simp))) fun nl s₂ hnl S₂ => ?_
  have S₂ := S₂.swap
  (repeat cell_call)
  refine getDS2 (by assumption) (.inr hdd.h) (nosys hdd.n) ?_
  intro s₃ S₃
  obtain ⟨q, vs0, ps0, eq0, hq0, hps0, hsum0, hnd0⟩ : ∃ (q : Addr) (vs0 : List Value) (ps0 : List (Σ h, Tr h)), (valueAt kvs (Str.ofString "Kids")).getD (Value.ref nl) = .ref q ∧ Here F [(L, NsO fun x => List.lookup x [(Str.ofString "shelf", Value.ref sh), (Str.ofString "root", Value.ref d)].reverse), (nl, ListO []), (fl, ListO [])] q (ListO vs0) ∧ Al (KidP prog w F₀ tb b) ps0 vs0 ∧ (ps0.map fun p => tsize p.1 p.2).sum ≤ 1000 ∧ NdL (ps0.map fun p : (Σ h, Tr h) => flat p.1 p.2).flatten := by
    cases h with
    | zero =>
      obtain ⟨hk0, _⟩ := hb
      refine ⟨nl, [], [], by rw [hk0]; rfl, .inl (by ((repeat (first | exact List.Mem.head _ | refine List.Mem.tail _ ?_)))), .nil, by simp, by simp [NdL]⟩
    | succ h =>
      obtain ⟨ks, rfl⟩ : ∃ ks : List (Tr h), ks = t := ⟨t, rfl⟩
      obtain ⟨l, vs, e1, e2, e3⟩ := hb
      refine ⟨l, vs, ks.map (fun u => (⟨h, u⟩ : Σ h, Tr h)), by rw [e1]; rfl, .inr (e2.mono l0), Al.mapL (f := fun u => (⟨h, u⟩ : Σ h, Tr h)) e3 fun u v z => ⟨m, z⟩, ?_, by rw [List.map_map]; exact hnd⟩
      rw [List.map_map]
      have : tsize (h + 1) ks = 1 + (List.map (tsize h) ks).sum := rfl
      show (List.map (tsize h) ks).sum ≤ 1000
      lia
  rw [eq0]
  have hlen0 : vs0.length ≤ 1000 := by
    rw [← hps0.length]
    exact Nat.le_trans (len_le_sum (f := fun p : (Σ h, Tr h) => tsize p.1 p.2) (fun p => tsize_pos _ _) ps0) hsum0
  (repeat cell_call)
  refine copyL S₃ ⟨_, .head _, hL⟩ hq0 (by lia) fun c s₄ hc S₄ => ?_
  have S₄ := S₄.swap
  (repeat cell_call)
  refine mkTup (by assumption) (by (exact small_sizeLine (by simp))) fun e s₅ he S₅ => ?_
  refine unpackI (xs := [.ref fl, .ref c]) hm'.h S₅ (.inl (.head _)) ⟨_, .head _, he⟩ fun s₆ S₆ => ?_
  have S₆ := S₆.tail
  refine wpAny_assignInOrder_more ?_
  refine wpAny_bindName ?_
  (repeat cell_call)
  refine wpAny_assignInOrder_more ?_
  refine wpAny_bindName ?_
  (repeat cell_call)
  ((refine wpAny_assignInOrder_none ?_))
  (repeat cell_call)
  rename At _ _ _ _ _ _ => S7
  obtain ⟨I, hI⟩ : ∃ I : Nat → Shared → Prop, ∀ k sx, I k sx ↔ (∃ (fs ls : List Value) (nss : List (List Nat)) (ps : List (Σ h, Tr h)) (c : Addr) (N1 : Led) (m1 : Str → Option Value), At (hd.heap_1 P) s [] F ((L, NsO m1) :: (c, ListO ls) :: (fl, ListO fs) :: N1) sx ∧ k = (ps.map fun p => tsize p.1 p.2).sum ∧ k + fs.length ≤ 1000 ∧ Al (fun (ns : List Nat) v => ∃ m : Int, KidV prog w F₀ tb b (fun _ => False) 0 m ns v) nss fs ∧ NdL (nss.flatten ++ (ps.map fun p : (Σ h, Tr h) => flat p.1 p.2).flatten) ∧ Al (KidP prog w F₀ tb b) ps ls ∧
    m1 (Str.ofString "shelf") = some (.ref sh) ∧ m1 (Str.ofString "found") = some (.ref fl) ∧ m1 (Str.ofString "line") = some (.ref c)) := ⟨_, fun _ _ => Iff.rfl⟩
  refine whileF I ?_ _ ((hI _ _).mpr ⟨[], vs0, [], ps0, c, [], _, S7.eraseIdx 2, rfl, by simpa using hsum0, .nil, by simpa using hnd0, hps0, ?_⟩)
  · intro k sx hIk
    obtain ⟨fs, ls, nss, ps, c, N1, m1, S8, rfl, hk, hfs, hnds, hps, n1, n2, n3⟩ := (hI k sx).mp hIk
    have hpl := len_le_sum (f := fun p : (Σ h, Tr h) => tsize p.1 p.2) (fun p => tsize_pos _ _) ps
    have hll := hps.length
    clear S₁ S₂ S₃ S₄ S₆ S7 S'
    (repeat cell_call)
    refine mkList (by assumption) (by (exact small_sizeLine (by simp))) fun nl2 s₉ hnl2 S₉ => ?_
    refine neNil S₉ (.inl (by ((repeat (first | exact List.Mem.head _ | refine List.Mem.tail _ ?_))))) (.inl (.head _)) hm'.units ?_
    have S₉ := S₉.tail
    cases ls with
    | nil =>
      dsimp only [List.isEmpty_nil, Bool.not_true]
      (repeat cell_call)
      have hps0' : ps = [] := List.eq_nil_of_length_eq_zero hll
      subst hps0'
      exact hq fl fs nss _ (Nat.le_trans S.size hfl) (by lia) hfs (by simpa using hnds) (At.back (U := []) (R := [(fl, ListO fs)]) S S₉ (Grow.refl _ _) (by simp) (by simp) (by simp))
    | cons v ls =>
      dsimp only [List.isEmpty_cons, Bool.not_false]
      obtain ⟨p, ps', rfl, ⟨mv, hv⟩, hps'⟩ := hps.uncons
      have hsumc : (List.map (fun p : (Σ h, Tr h) => tsize p.1 p.2) (p :: ps')).sum = tsize p.1 p.2 + (List.map (fun p : (Σ h, Tr h) => tsize p.1 p.2) ps').sum := by rw [List.map_cons, List.sum_cons]
      have hpos := tsize_pos p.1 p.2
      have hll' := hps'.length
      have hpl' := len_le_sum (f := fun p : (Σ h, Tr h) => tsize p.1 p.2) (fun p => tsize_pos _ _) ps'
      (repeat cell_call)
      refine methL PySem.F.slot_list_pop (by kernel_rfl) (by assumption) (.inl (by ((repeat (first | exact List.Mem.head _ | refine List.Mem.tail _ ?_))))) ?_
      (repeat cell_call)
      rename At _ _ _ _ _ _ => S10
      refine pop0L (i := 1) S10 rfl (by lia) ?_
      intro _ S11
      simp only [List.set_cons_zero, List.set_cons_succ] at S11
      (repeat cell_call)
      refine atMeth (by assumption) hsi.inst rfl (by k_is) (by k_is) (by k_is) ?_
      (repeat cell_call)
      have hv' := hv
      obtain ⟨k, e, d1, t0, kvs', r1, r2, b1, b2, b3, b4, b5, b6, b7, b8, b9, b10⟩ := hv'
      refine fetch_ (by assumption) (hm'.mono (by decide)) hs ((Fet.ofRef b3 b4 b5 b6).mono l0) fun s12 S12 => ?_
      (repeat cell_call)
      refine inDS (by assumption) (.inr (b6.h.mono l0)) (nosys b6.n) ?_
      intro _ S13
      obtain ⟨h1, tt⟩ := p
      cases h1 with
      | zero =>
        obtain ⟨tt, rfl⟩ : ∃ z : List Nat, z = tt := ⟨tt, rfl⟩
        obtain ⟨hk0, _⟩ := b10
        rw [hk0]
        dsimp only [Option.isSome_some, Option.isSome_none]
        (repeat cell_call)
        refine methL PySem.F.slot_list_append (by kernel_rfl) (by assumption) (.inl (by ((repeat (first | exact List.Mem.head _ | refine List.Mem.tail _ ?_))))) ?_
        (repeat cell_call)
        refine appendF (i := 2) S13 rfl (small_sizeLine (by lia)) ?_
        intro _ S15
        simp only [List.set_cons_zero, List.set_cons_succ] at S15
        (repeat cell_call)
        refine ⟨_, ?_, (hI _ _).mpr ⟨fs ++ [v], ls, nss ++ [(tt : List Nat)], ps', c, N1, _, S15, rfl, ?_, hfs.snoc ⟨mv, hv⟩, ?_, hps', ?_⟩⟩
        · rw [hsumc]; lia
        · rw [hsumc] at hk; simp only [List.length_append, List.length_cons, List.length_nil]; lia
        · have e : (nss ++ [(tt : List Nat)]).flatten ++ (ps'.map fun p : (Σ h, Tr h) => flat p.1 p.2).flatten = nss.flatten ++ (((⟨0, tt⟩ : Σ h, Tr h) :: ps').map fun p : (Σ h, Tr h) => flat p.1 p.2).flatten := by
            rw [List.flatten_append, List.append_assoc]; simp only [List.map_cons, List.flatten_cons, List.flatten_nil, List.append_nil]; rfl
          exact Eq.subst (motive := fun z : List Nat => NdL z) e.symm hnds
        · exact ⟨n1, n2, n3⟩
      | succ h1 =>
        obtain ⟨ks, rfl⟩ : ∃ ks : List (Tr h1), ks = tt := ⟨tt, rfl⟩
        obtain ⟨kl, vs, hk0, hkl, hkids⟩ := b10
        have hts : tsize (h1 + 1) ks = 1 + (List.map (tsize h1) ks).sum := rfl
        have hts' : tsize (⟨h1 + 1, ks⟩ : Σ h, Tr h).1 (⟨h1 + 1, ks⟩ : Σ h, Tr h).2 = 1 + (List.map (tsize h1) ks).sum := rfl
        have hkvl : ks.length = vs.length := hkids.length
        have hkln := len_le_sum (f := tsize h1) (tsize_pos h1) ks
        rw [hsumc, hts'] at hk
        rw [hk0]
        dsimp only [Option.isSome_some, Option.isSome_none]
        (repeat cell_call)
        refine subDS (by assumption) (.inr (b6.h.mono l0)) hk0 ?_ rfl
        intro _ S14
        refine addL S14 (.inl (by ((repeat (first | exact List.Mem.head _ | refine List.Mem.tail _ ?_))))) (.inr (hkl.mono l0)) (by lia) fun c2 s15 hc2 S15 => ?_
        have S15 := S15.swap
        (repeat cell_call)
        rename At _ _ _ _ _ _ => S16
        refine ⟨_, ?_, (hI _ _).mpr ⟨fs, ls ++ vs, nss, ps' ++ ks.map (fun u => (⟨h1, u⟩ : Σ h, Tr h)), c2, N1, _, S16.eraseIdx 2, rfl, ?_, hfs, ?_, hps'.append (Al.mapL (f := fun u => (⟨h1, u⟩ : Σ h, Tr h)) hkids fun u v z => ⟨k, z⟩), ?_⟩⟩
        · rw [hsumc, hts', List.map_append, List.sum_append, List.map_map]
          show _ + (List.map (tsize h1) ks).sum < _
          lia
        · rw [List.map_append, List.sum_append, List.map_map]
          show _ + (List.map (tsize h1) ks).sum + _ ≤ 1000
          lia
        · refine NdL.perm ?_ hnds
          refine List.Perm.append_left _ ?_
          rw [List.map_append, List.flatten_append, List.map_cons, List.flatten_cons, List.map_map]
          exact List.perm_append_comm
        · exact ⟨n1, n2, rfl⟩
  · exact ⟨rfl, rfl, rfl⟩
end

-- C18
section
variable {prog : Program} {w : World} {A : Around} {P : Params} {s₀ s : Shared} {X : List Addr} {F : Fz} {N : Led} {Q : Value → Shared → Prop} {E : Value → Shared → Prop} {K : Frag}
theorem mkDict0 {T : Type} [DecidableEq T] (knd : KeyKind prog w T) {pos : Pos} {env : Env} (S : At K s₀ X F N s) (h : ∀ a s', s₀.heap.objs.size ≤ a → 3 < a → At K s₀ X F ((a, fun o => o.IsDictOf knd []) :: N) s' → Q (.ref a) s') : wpAny (model prog w) A (eval (.Dict [] [] pos) env) Q E s := by
  rw [eval_Dict_empty]
  refine wpAny_bind (wpAny_standAt ?_)
  refine wpAny_newObj_type ?_ (by size_fits)
  exact h _ _ S.size S.big0 (S.push (t := s.toks) (newDictO knd) rfl)
set_option maxHeartbeats 1000000 in
theorem mkShelf (S : At (hd.heap_1 P) s₀ X F N s) (hm : Rm A 2) (h : ∀ sh T tr F' s', s₀.heap.objs.size ≤ T → 3 < T → Grow s₀.heap.objs.size F F' → InstF F' sh 363 [(Str.ofString "table", .ref T), (Str.ofString "trailer", .ref tr)] → At (hd.heap_1 P) s₀ X F' ((T, DictI prog w []) :: N) s' → Q (.ref sh) s') :
    wpAny (model prog w) A (call (.ref 363) []) Q E s := by
  ((refine' mkInst (C := 363) (fI := 292) (binds := (fun x => [(Str.ofString "self", Value.ref x), (Str.ofString "table", Value.none), (Str.ofString "trailer", Value.none)])) ?Sq424 ?hmq424 ?k1q424 ?k2q424 ?k3q424 ?k4q424 ?k5q424 ?k6q424 ?k7q424 ?k8q424 ?bodyq424 ?k9q424 ?k10q424 ?k11q424; (case Sq424 => assumption); (case k1q424 => k_is); (case k2q424 => k_is); (case k3q424 => k_is); (case k4q424 => k_is); (case k5q424 => k_is); (case k6q424 => first | (intro _ _ _; exact BindsTo.of_eq rfl) | ((intro x9 s9 k9; refine' binds_K k9 ?hdq425 ?hoq425 ?hsq425 ?h1q425 ?h2q425; (case hdq425 => exact rfl); (case hoq425 => k_is); (case hsq425 => exact rfl); (case h1q425 => exact rfl); (case h2q425 => exact rfl)))); (case k7q424 => intro x; exact locs rfl); (case k8q424 => decide); (case k9q424 => exact rfl); (case k10q424 => exact rfl); (case k11q424 => exact rfl)))
  case hmq424 => exact hm
  intro x dx A' L s₁ s' S1 hdx hx hL h3 S' hm'
  (repeat cell_call)
  ((refine plainObj_wpAny_Assign_Attribute ?_ ?hswq427; (case hswq427 => exact rfl)))
  (repeat cell_call)
  refine wpAny_is_self rfl ?_
  (repeat cell_call)
  refine mkDict0 (intKind prog w) (by assumption) fun T s₂ hT hT3 S₂ => ?_
  have S₂ := S₂.swap
  (repeat cell_call)
  ((refine' setA (i := 3) ?Sq431 ?xq431 ?iq431 ?lq431 ?aq431 ?bq431 ?cq431 ?dq431 ?_; (case Sq431 => assumption); (case iq431 => exact rfl); (case xq431 => exact .inl (by ((repeat (first | exact List.Mem.head _ | refine List.Mem.tail _ ?_))))); (case lq431 => simp); (case aq431 => k_is); (case bq431 => k_is); (case cq431 => k_is); (case dq431 => k_is); (intro _ S9; simp only [List.set_cons_zero, List.set_cons_succ] at S9)))
  (repeat cell_call)
  ((refine plainObj_wpAny_Assign_Attribute ?_ ?hswq434; (case hswq434 => exact rfl)))
  (repeat cell_call)
  refine wpAny_is_self rfl ?_
  (repeat cell_call)
  refine mkDict0 (intKind prog w) (by assumption) fun tr s₃ htr htr3 S₃ => ?_
  have S₃ := S₃.swap
  (repeat cell_call)
  ((refine' setA (i := 4) ?Sq438 ?xq438 ?iq438 ?lq438 ?aq438 ?bq438 ?cq438 ?dq438 ?_; (case Sq438 => assumption); (case iq438 => exact rfl); (case xq438 => exact .inl (by ((repeat (first | exact List.Mem.head _ | refine List.Mem.tail _ ?_))))); (case lq438 => simp); (case aq438 => k_is); (case bq438 => k_is); (case cq438 => k_is); (case dq438 => k_is); (intro _ S9; simp only [List.set_cons_zero, List.set_cons_succ] at S9)))
  (repeat cell_call)
  refine ⟨rfl, ?_⟩
  rename_i S9
  have hnd := S9.nodup
  have hne : x ≠ dx ∧ x ≠ T ∧ dx ≠ T := by
    simp only [List.map_cons, List.map_nil, List.nodup_cons, List.mem_cons, not_or] at hnd
    exact ⟨hnd.2.2.2.1.1, Ne.symm hnd.2.2.1.1, Ne.symm hnd.2.2.1.2.1⟩
  have S10 := At.back (U := [(x, InstO 363 dx), (dx, AttrX [])]) (R := [(x, InstO 363 dx), (dx, AttrX _), (T, DictI prog w [])]) S1 S9 (Grow.refl _ _) (by simp) (fun p hp => by
    simp only [List.mem_cons, List.not_mem_nil, or_false] at hp
    rcases hp with rfl | rfl | rfl
    · ((repeat (first | exact List.Mem.head _ | refine List.Mem.tail _ ?_)))
    · ((repeat (first | exact List.Mem.head _ | refine List.Mem.tail _ ?_)))
    · ((repeat (first | exact List.Mem.head _ | refine List.Mem.tail _ ?_)))) (by simp; exact ⟨⟨hne.1, hne.2.1⟩, hne.2.2⟩)
  obtain ⟨F', gr, hi, S11⟩ := freezeInst (C := 363) S10 hx hdx (by simp)
  exact h x T tr F' _ (Nat.le_trans S1.size hT) hT3 gr (hi.look fun n => by
    simp only [List.lookup_cons, List.lookup_nil]
    by_cases c1 : n = Str.ofString "table"
    · subst c1
      rw [show (Str.ofString "table" == Str.ofString "trailer") = false from by decide +kernel]
    · rw [beq_eq_false_iff_ne.mpr c1]) S11
end

-- Z1
/-- strictly rising -/
abbrev Asc (xs : Array Nat) : Prop := xs.toList.Pairwise (· < ·)
theorem Asc.lt {xs : Array Nat} (h : Asc xs) {i j : Nat} (hij : i < j) (hj : j < xs.size) : xs.getD i 0 < xs.getD j 0 := by
  have hi : i < xs.size := Nat.lt_trans hij hj
  rw [Array.getD_eq_getD_getElem?, Array.getD_eq_getD_getElem?, Array.getElem?_eq_getElem hi, Array.getElem?_eq_getElem hj]
  simp only [Option.getD_some]
  have := (List.pairwise_iff_getElem.mp h) i j (by simpa using hi) (by simpa using hj) hij
  simpa using this
theorem below_go (xs : Array Nat) (j : Nat) (h : Asc xs) : ∀ (fuel lo hi : Nat), lo ≤ hi → hi ≤ xs.size → hi - lo ≤ fuel → (∀ i, i < lo → xs.getD i 0 < j) → (∀ i, hi ≤ i → i < xs.size → j ≤ xs.getD i 0) →
    let r := SetTable.below.go xs j fuel lo hi
    r ≤ xs.size ∧ (∀ i, i < r → xs.getD i 0 < j) ∧ (∀ i, r ≤ i → i < xs.size → j ≤ xs.getD i 0)
  | 0, lo, hi, hl, hs, hf, h1, h2 => by
    have : lo = hi := by omega
    subst this
    exact ⟨hs, h1, h2⟩
  | fuel + 1, lo, hi, hl, hs, hf, h1, h2 => by
    unfold SetTable.below.go
    by_cases c : lo < hi
    · rw [if_pos c]
      dsimp only
      have hm : (lo + hi) / 2 < xs.size := by omega
      have hg : ∀ z, xs.getD ((lo + hi) / 2) z = xs.getD ((lo + hi) / 2) 0 := fun z => by
        rw [Array.getD_eq_getD_getElem?, Array.getD_eq_getD_getElem?, Array.getElem?_eq_getElem hm]; rfl
      simp only [hg]
      by_cases d : xs.getD ((lo + hi) / 2) 0 < j
      · rw [if_pos d]
        refine below_go xs j h fuel _ _ (by omega) hs (by omega) (fun i hi' => ?_) h2
        rcases Nat.lt_or_eq_of_le (show i ≤ (lo + hi) / 2 by omega) with q | q
        · exact Nat.lt_trans (h.lt q (by omega)) d
        · rw [q]; exact d
      · rw [if_neg d]
        refine below_go xs j h fuel _ _ (by omega) (by omega) (by omega) h1 (fun i hi' hi'' => ?_)
        rcases Nat.lt_or_eq_of_le hi' with q | q
        · have := h.lt q hi''; omega
        · rw [← q]; omega
    · rw [if_neg c]
      have : lo = hi := by omega
      subst this
      exact ⟨hs, h1, h2⟩
theorem below_spec {xs : Array Nat} (h : Asc xs) (j : Nat) : SetTable.below xs j ≤ xs.size ∧ (∀ i, i < SetTable.below xs j → xs.getD i 0 < j) ∧ (∀ i, SetTable.below xs j ≤ i → i < xs.size → j ≤ xs.getD i 0) :=
  below_go xs j h xs.size 0 xs.size (Nat.zero_le _) (Nat.le_refl _) (by omega) (fun i hi => absurd hi (Nat.not_lt_zero _)) (fun i hi hi' => absurd hi' (by omega))
theorem insertAt_list (xs : Array Nat) (p x : Nat) (hp : p ≤ xs.size) : (SetTable.insertAt xs p x).toList = xs.toList.take p ++ x :: xs.toList.drop p := by
  unfold SetTable.insertAt
  simp [Array.toList_extract, List.take_of_length_le]
theorem put_asc {t : SetTable} {j : Nat} (h : Asc t.place) (hj : t.place[SetTable.below t.place j]? ≠ some j) : Asc (t.put j).1.place := by
  obtain ⟨h1, h2, h3⟩ := below_spec h j
  show Asc (SetTable.insertAt t.place (SetTable.below t.place j) j)
  unfold Asc
  rw [insertAt_list _ _ _ h1]
  have hlt : ∀ x ∈ t.place.toList.take (SetTable.below t.place j), x < j := by
    intro x hx
    obtain ⟨i, hi⟩ := List.mem_iff_getElem?.mp hx
    rw [List.getElem?_take] at hi
    split at hi
    · rename_i c
      have := h2 i c
      rw [Array.getD_eq_getD_getElem?, ← Array.getElem?_toList, hi] at this
      exact this
    · cases hi
  have hgt : ∀ x ∈ t.place.toList.drop (SetTable.below t.place j), j < x := by
    intro x hx
    obtain ⟨i, hi⟩ := List.mem_iff_getElem?.mp hx
    rw [List.getElem?_drop] at hi
    have hsz : SetTable.below t.place j + i < t.place.size := by simpa using (List.getElem?_eq_some_iff.mp hi).1
    have h4 := h3 _ (Nat.le_add_right _ i) hsz
    rw [Array.getD_eq_getD_getElem?, ← Array.getElem?_toList, hi] at h4
    have h5 : j ≤ x := h4
    rcases Nat.lt_or_eq_of_le h5 with q | q
    · exact q
    · exfalso
      subst q
      rcases Nat.eq_zero_or_pos i with z | z
      · subst z
        rw [Nat.add_zero, Array.getElem?_toList] at hi
        exact hj hi
      · have h6 := h.lt (i := SetTable.below t.place j) (j := SetTable.below t.place j + i) (by omega) hsz
        have h7 := h3 (SetTable.below t.place j) (Nat.le_refl _) (by omega)
        have h8 : t.place.getD (SetTable.below t.place j + i) 0 = j := by
          rw [Array.getD_eq_getD_getElem?, ← Array.getElem?_toList, hi]; rfl
        omega
  rw [List.pairwise_append]
  refine ⟨h.sublist (List.take_sublist _ _), ?_, ?_⟩
  · rw [List.pairwise_cons]
    exact ⟨hgt, h.sublist (List.drop_sublist _ _)⟩
  · intro a ha c hc
    rcases List.mem_cons.mp hc with rfl | hc
    · exact hlt a ha
    · exact Nat.lt_trans (hlt a ha) (hgt c hc)
theorem range_asc (n : Nat) : Asc (Array.range n) := by
  unfold Asc
  rw [Array.toList_range]
  exact List.pairwise_lt_range

-- Z2
/-- what a table keeps that was only added to -/
structure TI (t₀ t : SetTable) : Prop where
  asc : Asc t.place
  nod : t.dummies = #[]
  led : t.led = t₀.led
theorem slot_nod {t : SetTable} (hd : t.dummies = #[]) (j : Nat) : t.slot j ≠ .dummy := by
  unfold SetTable.slot
  dsimp only
  split
  · nofun
  · have : SetTable.has t.dummies j = false := by rw [hd]; simp [SetTable.has]
    rw [this]; nofun
theorem slot_empty {t : SetTable} {j : Nat} (h : t.slot j = .empty) : t.place[SetTable.below t.place j]? ≠ some j := by
  unfold SetTable.slot at h
  dsimp only at h
  split at h
  · cases h
  · rename_i c; intro e; exact c (by rw [e]; exact beq_self_eq_true _)
theorem adv_dummy (t : SetTable) (p : SetTable.Probe) : (t.advance p).dummy = p.dummy := by
  unfold SetTable.advance
  split <;> rfl
theorem probe_empty {t : SetTable} (hd : t.dummies = #[]) (g : Nat → Int) (h : Int) : ∀ (fuel : Nat) (p : SetTable.Probe) (j : Nat) (d : Option Nat), p.dummy = none → SetTable.probe.go t g h fuel p = some (.empty j d) → d = none ∧ t.slot j = .empty
  | 0, p, j, d, hp, e => by cases e
  | fuel + 1, p, j, d, hp, e => by
    unfold SetTable.probe.go at e
    split at e
    · rename_i c; cases e; exact ⟨hp, c⟩
    · rename_i c; exact absurd c (slot_nod hd _)
    · split at e
      · cases e
      · exact probe_empty hd g h fuel _ j d (by rw [adv_dummy]; exact hp) e
theorem free_slot {t : SetTable} (hd : t.dummies = #[]) {h : Int} {j : Nat} {b : Bool} (e : t.freeSlot h = some (j, b)) : t.slot j = .empty := by
  unfold SetTable.freeSlot at e
  split at e
  · rename_i j' d' c
    cases e
    obtain ⟨rfl, h2⟩ := probe_empty hd _ _ _ _ _ _ rfl c
    exact h2
  · cases e
theorem standIn_ti {t₀ t : SetTable} (h : t.led = t₀.led) (n : Nat) : TI t₀ (t.standIn n) := ⟨range_asc n, rfl, h⟩
theorem layNew_ti {t₀ t : SetTable} (H : TI t₀ t) (es : Array (Int × Value)) (h : Int) (x : Value) : TI t₀ (layNew t es h x).2.1 := by
  unfold layNew
  split
  · rename_i j b e
    have := free_slot H.nod e
    dsimp only
    unfold SetTable.orStandIn
    split
    · refine ⟨put_asc H.asc (slot_empty this), ?_, H.led⟩
      unfold SetTable.put
      dsimp only
      rw [H.nod]
      simp [SetTable.has]
    · exact standIn_ti (by exact H.led) _
  · exact standIn_ti H.led _
theorem laid_ti {t₀ t : SetTable} {m f mv : Nat} {b c : Bool} {hs : Array Int} {o : Array Nat} (hl : b = t₀.led) (e : SetTable.laid m f mv b c hs = some (t, o)) : TI t₀ t := by
  unfold SetTable.laid at e
  cases hw : SetTable.layClean m hs with
  | none => rw [hw] at e; cases e
  | some ow =>
    rw [hw] at e
    cases e
    refine ⟨?_, rfl, hl⟩
    unfold Asc
    dsimp only
    rw [List.pairwise_map, List.pairwise_filterMap]
    refine List.Pairwise.imp ?_ List.pairwise_lt_range
    intro a a' hlt b hb b' hb'
    simp only [Option.map_eq_some_iff] at hb hb'
    obtain ⟨_, _, rfl⟩ := hb
    obtain ⟨_, _, rfl⟩ := hb'
    exact hlt
theorem relayAll_ti {t₀ t : SetTable} (H : TI t₀ t) (es : Array (Int × Value)) (n : Nat) : TI t₀ (relayAll t es n).2.1 := by
  unfold relayAll
  split
  · rename_i t' o e
    dsimp only
    split
    · exact laid_ti H.led e
    · exact standIn_ti H.led _
  · exact standIn_ti H.led _
theorem plain_ti {t₀ t : SetTable} (H : TI t₀ t) : TI t₀ { t with plain := false } := ⟨H.asc, H.nod, H.led⟩

-- Z3
def ik : Value → Int
  | .int n _ => n
  | _ => 0
variable {prog : Program} {w : World} {A : Around} {E : Value → Shared → Prop} {s : Shared}
/-- a set of ints, with the shape of its table -/
structure SI (prog : Program) (w : World) (h : Heap) (a : Addr) (ep : Nat) (es : Array (Int × Value)) (t : SetTable) (σ : List Int) : Prop where
  ob : h.get? a = some { cls := .type "set", dict := none, data := .set es ep t }
  el : ElemsOf (intKind prog w) es.toList
  pm : (es.toList.map fun e => ik e.2).Perm σ
  sz : es.size < scanBound
  ft : t.fits es.size = true
  asc : Asc t.place
  nod : t.dummies = #[]
  led : w.params.followText "set-order" = false → t.led = true
def SIx (prog : Program) (w : World) (h : Heap) (a : Addr) (σ : List Int) : Prop := ∃ ep es t, SI prog w h a ep es t σ
theorem ik_is {k : Int} {v : Value} (h : Value.isInt k v = true) : ik v = k := by
  obtain ⟨t, rfl⟩ := Value.isInt_shape h; rfl
theorem SI.store {h : Heap} {a : Addr} {ep : Nat} {es es' : Array (Int × Value)} {t t' : SetTable} {σ σ' : List Int} (H : SI prog w h a ep es t σ) (el : ElemsOf (intKind prog w) es'.toList) (pm : (es'.toList.map fun e => ik e.2).Perm σ') (sz : es'.size < scanBound) (ft : t'.fits es'.size = true) (ti : TI t t') :
    SI prog w (h.update a (Obj.putSet es' t')) a (ep + 1) es' t' σ' :=
  ⟨by have := Heap.get?_update_self (Obj.putSet es' t') H.ob rfl; exact this, el, pm, sz, ft, ti.asc, ti.nod, fun e => ti.led.trans (H.led e)⟩
theorem SI.ti {h : Heap} {a : Addr} {ep : Nat} {es : Array (Int × Value)} {t : SetTable} {σ : List Int} (H : SI prog w h a ep es t σ) : TI t t := ⟨H.asc, H.nod, rfl⟩
theorem addTail {a : Addr} {ep : Nat} {es es1 : Array (Int × Value)} {t t1 : SetTable} {σ σ' : List Int} {g : Bool → Sem Unit} (hg : ∀ (b : Bool) (s₁ : Shared) (Q' : Unit → Shared → Prop), Q' () s₁ → wpAny (model prog w) A (g b) Q' E s₁)
    (H : SI prog w s.heap a ep es t σ) (el : ElemsOf (intKind prog w) es1.toList) (pm : (es1.toList.map fun e => ik e.2).Perm σ') (sz : es1.size < scanBound) (ft : t1.fits es1.size = true) (ti : TI t t1) {d : Bool} {R : Option Bool → Shared → Prop}
    (h : ∀ h', Heap.SameBut a s.heap h' → SIx prog w h' a σ' → R (some true) { s with heap := h' }) :
    wpAny (model prog w) A (do
        storeSet a es1 t1
        if (!d && t1.tooFull) = true then do
            g (relayAll t1 es1 (SetTable.grown es1.size)).2.2
            storeSet a (relayAll t1 es1 (SetTable.grown es1.size)).1 (relayAll t1 es1 (SetTable.grown es1.size)).2.1
            pure (some true)
          else pure (some true)) R E s := by
  have H1 := H.store el pm sz ft ti
  have b1 := Heap.SameBut.update s.heap a (Obj.putSet es1 t1)
  refine wpAny_bind (wpAny_storeSet_of H.ob rfl ?_ (fits_of_scanBound sz))
  split
  · have hp := relayAll_perm t1 es1 (SetTable.grown es1.size)
    have hf := relayAll_fits t1 es1 (SetTable.grown es1.size)
    have hz : (relayAll t1 es1 (SetTable.grown es1.size)).1.size = es1.size := by rw [← Array.length_toList, hp.length_eq, Array.length_toList]
    refine wpAny_bind (hg _ _ _ ?_)
    refine wpAny_bind (wpAny_storeSet_of H1.ob rfl ?_ (fits_of_scanBound (by rw [hz]; exact sz)))
    refine wpAny_pure (h _ (b1.trans (Heap.SameBut.update _ a _)) ⟨_, _, _, H1.store (el.perm hp) ((hp.map _).trans pm) (by rw [hz]; exact sz) hf (relayAll_ti H1.ti _ _)⟩)
  · exact wpAny_pure (h _ b1 ⟨_, _, _, H1⟩)
theorem addSI {a : Addr} {σ : List Int} {k : Int} {tk : Tok} {Q : Bool → Shared → Prop} (H : SIx prog w s.heap a σ) (hn : σ.length + 1 < scanBound)
    (h : ∀ (b : Bool) h', Heap.SameBut a s.heap h' → SIx prog w h' a (step_dedup σ k) → Q b { s with heap := h' }) :
    wpAny (model prog w) A (setAddHashed a (.int k tk) (hashInt k)) Q E s := by
  obtain ⟨ep, es, t, H⟩ := H
  have hsc : (Value.int k tk).scannable = true := rfl
  have hkey : (intKind prog w).is k (.int k tk) = true := intKind_is _ _ _ _
  have hen : es.size = σ.length := by have := H.pm.length_eq; simpa using this
  unfold setAddHashed setAddHashedIn
  refine wpAny_holding (wpAny_bind (wpAny_setState_of H.ob rfl H.ft ?_))
  dsimp only
  rw [byScan_of hsc H.sz H.el]
  simp only [↓reduceIte]
  unfold setAddByScan
  refine wpAny_bind ?_
  refine wpAny_bind (wpAny_rule ?_)
  refine wpAny_bind (wpAny_setScan_of (knd := intKind prog w) hkey H.ob rfl H.ft H.el ?_)
  cases hr : List.findIdx? (fun e => (intKind prog w).is k e.2) es.toList with
  | some j =>
    dsimp only
    obtain ⟨hj, hpj, _⟩ := List.findIdx?_eq_some_iff_getElem.mp hr
    have hm : k ∈ σ := H.pm.mem_iff.mp (List.mem_map.mpr ⟨_, List.getElem_mem hj, ik_is hpj⟩)
    have e : step_dedup σ k = σ := by unfold step_dedup; exact if_pos (by rw [List.any_eq_true]; exact ⟨k, hm, beq_self_eq_true _⟩)
    refine wpAny_pure (wpAny_pure ?_)
    have := h false s.heap (Heap.SameBut.refl a s.heap) (by rw [e]; exact ⟨_, _, _, H⟩)
    exact this
  | none =>
    dsimp only
    have hm : k ∉ σ := fun hm => by
      obtain ⟨e, he, rfl⟩ := List.mem_map.mp (H.pm.mem_iff.mpr hm)
      obtain ⟨k', hk', _⟩ := (H.el e he).1
      have := List.findIdx?_eq_none_iff.mp hr e he
      rw [ik_is hk'] at this
      rw [hk'] at this; cases this
    have e : step_dedup σ k = σ ++ [k] := by
      unfold step_dedup; rw [if_neg]
      intro c; obtain ⟨x, hx, hx'⟩ := List.any_eq_true.mp c
      rw [eq_of_beq hx'] at hx; exact hm hx
    have hgw : ∀ (b : Bool) (s₁ : Shared) (Q' : Unit → Shared → Prop), Q' () s₁ → wpAny (model prog w) A (match b with | true => rule "set.scan.the-table-gave-way" | false => pure ()) Q' E s₁ :=
      fun b s₁ Q' hq => by cases b <;> first | exact wpAny_pure hq | exact wpAny_rule hq
    have hp := layNew_perm t es (hashInt k) (.int k tk)
    have hf := layNew_fits t es (hashInt k) (.int k tk)
    have ht := layNew_ti H.ti es (hashInt k) (.int k tk)
    generalize layNew t es (hashInt k) (.int k tk) = L at hp hf ht ⊢
    obtain ⟨es1, t1, wd, gv⟩ := L
    dsimp only at hp hf ht ⊢
    rw [Array.toList_push] at hp
    have el1 : ElemsOf (intKind prog w) es1.toList := (H.el.push hkey hsc).perm hp
    have pm1 : (es1.toList.map fun e => ik e.2).Perm (σ ++ [k]) := (hp.map _).trans (by rw [List.map_append]; exact H.pm.append_right _)
    have sz1 : es1.size < scanBound := by
      rw [← Array.length_toList, hp.length_eq, List.length_append, Array.length_toList, hen]; exact hn
    refine wpAny_bind (hgw _ _ _ ?_)
    split
    · refine wpAny_bind ?_
      rw [hashByValue_scannable 8 hsc]
      refine wpAny_pure ?_
      refine addTail (g := _) ?_ H el1 pm1 sz1 ?_ ?_ fun h' hsb H' => wpAny_pure (h true h' hsb (by rw [e]; exact H'))
      · intro b s₁ Q' hq; cases b <;> first | exact wpAny_pure hq | exact wpAny_rule hq
      · split
        · exact hf
        · exact SetTable.fits_plain_off hf
      · split
        · exact ht
        · exact plain_ti ht
    · refine wpAny_bind (wpAny_pure ?_)
      simp only [↓reduceIte]
      refine addTail (g := _) ?_ H el1 pm1 sz1 hf ht fun h' hsb H' => wpAny_pure (h true h' hsb (by rw [e]; exact H'))
      intro b s₁ Q' hq; cases b <;> first | exact wpAny_pure hq | exact wpAny_rule hq

-- Z4
section
variable {prog : Program} {w : World} {A : Around} {R : Result → Shared → Prop} {I : Addr} {fp wr : List Addr} {G : Array GenState → Array GenState → Prop} {n : Nat} {P : Nat → Value → Prop} {St : Nat → Shared → Prop}
theorem setLoop (W : WalksS prog w A.in1 I fp wr G n P St) (S : Addr) (hSf : S ∉ fp) (val : Nat → Int) (hval : ∀ i v, P i v → ∃ t, v = .int (val i) t) (hb : n + 1 < scanBound) :
    ∀ (k i : Nat) (s : Shared), n - i = k → i ≤ n → St i s → SIx prog w s.heap S (firstMet val i) →
      (∀ s', Moved (S :: wr) G s s' → SIx prog w s'.heap S (firstMet val n) → R (.ok (.ret .none)) s') →
      codeAny (model prog w) A (.builtin "set.update.loop" ⟨[.ref S, .ref I], []⟩) R s := by
  have hSw : S ∉ wr := fun h => hSf (W.sub _ h)
  have hsub : ∀ b ∈ wr, b ∈ S :: wr := fun b hb => List.mem_cons_of_mem _ hb
  intro k
  induction k with
  | zero =>
    intro i s hk hi hst hS hR
    have hin : i = n := by lia
    subst hin
    refine codeAny_builtin F.entry_set_update_loop ?_
    rw [Around.under_plainId F.plain_set_update_loop _]
    show wpAny _ A.in1 (pyNext (.ref I) >>= _) _ _ s
    refine wpAny_bind (W.done s _ _ hst fun s' hm => ?_)
    show wpAny _ A.in1 (ret Value.none) _ _ s'
    obtain ⟨ep, es, t, H⟩ := hS
    exact wpAny_pure (hR s' (hm.mono hsub) ⟨ep, es, t, { H with ob := hm.heap S _ hSw H.ob }⟩)
  | succ k ih =>
    intro i s hk hi hst hS hR
    have hlt : i < n := by lia
    refine codeAny_builtin F.entry_set_update_loop ?_
    rw [Around.under_plainId F.plain_set_update_loop _]
    show wpAny _ A.in1 (pyNext (.ref I) >>= _) _ _ s
    refine wpAny_bind (W.item i s _ _ hlt hst fun v s' hP hst' hm => ?_)
    obtain ⟨t, rfl⟩ := hval i v hP
    have hS' : SIx prog w s'.heap S (firstMet val i) := by
      obtain ⟨ep, es, t, H⟩ := hS
      exact ⟨ep, es, t, { H with ob := hm.heap S _ hSw H.ob }⟩
    show wpAny _ A.in1 (holding [Value.int (val i) t] (setAdd S (.int (val i) t)) >>= _) _ _ s'
    refine wpAny_bind (wpAny_holding ?_)
    unfold setAdd
    refine wpAny_holding ?_
    refine wpAny_bind ((intKind prog w).pyHash (k := val i) (intKind_is _ _ _ _) ?_)
    have hroom : (firstMet val i).length + 1 < scanBound := by have := firstMet_length_le val i; lia
    refine addSI (s := { s' with toks := s'.toks + 1 }) hS' hroom fun b h' hsb hS2 => ?_
    rw [← firstMet_succ] at hS2
    refine wpAny_pure ⟨plainId_quiet F.plain_set_update_loop _, ih (i + 1) _ (by lia) hlt (W.frame _ s' _ _ hst' (Nat.le_succ _) fun b hb o e => ?_) hS2 fun s'' hm'' hS'' => ?_⟩
    · rw [hsb.2 b (fun h : b = S => hSf (by rw [← h]; exact hb))]; exact e
    · refine hR s'' (Moved.trans W.gtrans ((hm.mono hsub).then_heap (Nat.le_succ _) fun b o hb e => ?_) hm'') hS''
      rw [hsb.2 b (fun h : b = S => hb (by rw [h]; exact List.mem_cons_self))]; exact e
end
section
variable {prog : Program} {w : World} {A : Around} {E : Value → Shared → Prop} {s : Shared}
theorem setNew (a : Value) {Q₁ : Value → Shared → Prop}
    (h : ∀ led : Bool, (w.params.followText "set-order" = false → led = true) → Q₁ (.ref s.heap.objs.size) { s with heap := s.heap.push { cls := .type "set", dict := none, data := .set #[] 0 (.fresh 0 0 led) } }) :
    codeAny (model prog w) A (.call (.builtin "set.__new__") ⟨[.type "set", a], []⟩) (wants Q₁ E) s := by
  refine codeAny_of_tree ?_
  show wpAny _ A.in1 (do checkBuiltinCall "set.__new__" ⟨[.type "set", a], []⟩; again (.builtin "set.__new__" ⟨[.type "set", a], []⟩)) _ _ s
  refine wpAny_bind (wpAny_of_eq (F.newCall_set_1 a) (wpAny_pure ⟨plainId_quiet F.plain_set_new _, codeAny_builtin F.entry_set_new ?_⟩))
  rw [Around.under_plainId F.plain_set_new _]
  unfold Builtin.«set.__new__» Builtin.Frozenset.newClass
  have hsub := sub_set_self
  obtain ⟨hp, g, d, tk, os⟩ := s
  dsimp only
  wp_walk
  refine wpAny_askSetting (wpAny_pure ?_)
  dsimp only
  simp only [newObj]
  refine wpAny_bind (wpAny_alloc (wpAny_pure ?_))
  refine wpAny_pure (h _ fun e => ?_)
  show (!w.params.followText "set-order") = true
  rw [e]; rfl
theorem fresh_SI {h : Heap} {a : Addr} {led : Bool} (e : h.get? a = some { cls := .type "set", dict := none, data := .set #[] 0 (.fresh 0 0 led) }) (hl : w.params.followText "set-order" = false → led = true) : SIx prog w h a [] :=
  ⟨0, #[], .fresh 0 0 led, e, (fun e he => by simp at he), List.Perm.nil, by decide, by rfl, List.Pairwise.nil, rfl, hl⟩
set_option maxHeartbeats 3200000 in
theorem callSet {l : Addr} {items : Array Value} {ns : List Int} {Q : Value → Shared → Prop}
    (hh : A.handled = none) (hl : s.heap.IsList l items) (hi : IntsAre items.toList ns) (hb : items.size + 1 < scanBound)
    (h : ∀ (h' : Heap) (tk : Nat), SIx prog w h' s.heap.objs.size (firstMet (fun i => ns.getD i 0) items.size) →
      (∀ b o, b < s.heap.objs.size → s.heap.get? b = some o → h'.get? b = some o) → Q (.ref s.heap.objs.size) { s with heap := h', toks := tk }) :
    wpAny (model prog w) A (call (.type "set") [.ref l]) Q E s := by
  obtain ⟨c, tl, hmro⟩ := PySem.F.called_set.mro
  have hmade := PySem.F.called_set.made
  have hsub := PySem.F.called_set.sub
  refine wpAny_call (codeAny_of_tree ?_)
  show wpAny _ _ (callAny (.type "set") _) _ _ _
  refine wpAny_pure ⟨Code.quiet_builtin _ (by decide +kernel), codeAny_builtin PySem.F.entry_type_call ?_⟩
  rw [Around.under_plain (weight_type_call_type "set" [.ref l] []) rfl]
  have h1 := PySem.F.called_set.notType
  have h2 := PySem.F.called_set.canCreate
  have hct := PySem.F.typeCall_set_1 (.ref l)
  repeat (any_goals (first | assumption | wp_step))
  refine codeAny_mono (setNew (.ref l) (E := E) (Q₁ := fun obj s₁ => ∃ led : Bool, (w.params.followText "set-order" = false → led = true) ∧ obj = .ref s.heap.objs.size ∧ s₁ = { s with heap := s.heap.push { cls := .type "set", dict := none, data := .set #[] 0 (.fresh 0 0 led) } }) fun led hled => ⟨led, hled, rfl, rfl⟩) fun r s₁ hr => ?_
  cases r with
  | error e => exact hr
  | ok fl =>
    cases fl with
    | ret obj =>
      obtain ⟨led, hled, rfl, rfl⟩ := hr
      have hS : (s.heap.push { cls := .type "set", dict := none, data := .set #[] 0 (.fresh 0 0 led) }).get? s.heap.objs.size = some { cls := .type "set", dict := none, data := .set #[] 0 (.fresh 0 0 led) } := Heap.get?_push_size _ rfl
      have hT : Shared.TypeIs { s with heap := s.heap.push { cls := .type "set", dict := none, data := .set #[] 0 (.fresh 0 0 led) } } (.ref s.heap.objs.size) "set" := ⟨_, hS, rfl⟩
      have hli := PySem.F.called_set.init.lookup
      have hbi := PySem.F.called_set.init.bind (.ref s.heap.objs.size)
      repeat (any_goals (first | assumption | wp_step))
      refine codeAny_mono (codeAny_call_builtin (R := wants (fun r s₂ => r = .none ∧ ∃ h' tk, s₂ = { s with heap := h', toks := tk } ∧
          SIx prog w h' s.heap.objs.size (firstMet (fun i => ns.getD i 0) items.size) ∧
          (∀ b o, b < s.heap.objs.size → s.heap.get? b = some o → h'.get? b = some o)) E) PySem.F.called_set.init.plain PySem.F.entry_set_init (check_set_init_1 hT ?_)) fun r₂ s₂ hr₂ => ?_
      · obtain ⟨ol, hol, hcl, nl, hdl⟩ := hl
        obtain ⟨ocls, odict, odata, oslots⟩ := ol
        simp only at hcl hdl
        subst hcl; subst hdl
        have hol' : (s.heap.push { cls := .type "set", dict := none, data := .set #[] 0 (.fresh 0 0 led) }).get? l = some { cls := .type "list", dict := odict, data := .seq items nl, slots := oslots } := Heap.get?_push_of_some _ hol
        have hsls := PySem.F.sub_list_set
        have hslf := PySem.F.sub_list_frozenset
        have hne : (Value.type "list" == Value.type "dict") = false := by decide
        have hl1 : (s.heap.push { cls := .type "set", dict := none, data := .set #[] 0 (.fresh 0 0 led) }).IsList l items := ⟨_, hol', rfl, nl, rfl⟩
        unfold Builtin.«set.__init__» noKeywords Builtin.Frozenset.updateFrom
        generalize hPI : pyIter = PI
        wp_walk
        subst hPI
        refine wpAny_pyIter_list hl1 ?_
        refine wpAny_bind (wpAny_runValue ?_)
        have hlS : l < s.heap.objs.size := Heap.lt_size hol
        have hh3 : A.in1.in1.in1.handled = none := by simp [hh]
        have hneI : l ≠ (s.heap.push { cls := .type "set", dict := none, data := .set #[] 0 (.fresh 0 0 led) }).objs.size := by
          rw [Heap.size_push]; exact Nat.ne_of_lt (Nat.lt_succ_of_lt hlS)
        have hSf : s.heap.objs.size ∉ [(s.heap.push { cls := .type "set", dict := none, data := .set #[] 0 (.fresh 0 0 led) }).objs.size, l] := by
          rw [Heap.size_push]; simp only [List.mem_cons, List.not_mem_nil, or_false, not_or]
          exact ⟨Nat.ne_of_lt (Nat.lt_succ_self _), Nat.ne_of_gt hlS⟩
        have hval : ∀ (i : Nat) (v : Value), items[i]? = some v → ∃ t, v = .int ((fun i => ns.getD i 0) i) t := fun i v hv =>
          IntsAre.int_at hi i v (by rw [Array.getElem?_toList]; exact hv)
        refine setLoop ((Walks.list hh3 _ l hneI items).toS) s.heap.objs.size
          hSf (fun i => ns.getD i 0) hval hb (items.size - 0) 0 _ (by lia) (Nat.zero_le _)
          ⟨⟨_, Heap.get?_push_size _ rfl, rfl, rfl⟩, (hl1.push _)⟩ ?hS0 ?hR
        case hS0 => exact fresh_SI (Heap.get?_push_of_some _ hS) hled
        case hR =>
          intro s' hm hS'
          obtain ⟨h', g', d', tk', os'⟩ := s'
          have eg : g' = s.gens := hm.gens
          have ed : d' = s.drawn := hm.drawn
          have eo : os' = s.os := hm.os
          subst eg; subst ed; subst eo
          show wpAny _ _ _ _ _ _
          refine wpAny_pure ?_
          show wpAny _ _ (ret Value.none) _ _ _
          refine wpAny_pure ⟨rfl, h', tk', rfl, hS', fun b o hb e => ?_⟩
          have hb1 : b ≠ s.heap.objs.size := Nat.ne_of_lt hb
          have hb2 : b ≠ (s.heap.push { cls := .type "set", dict := none, data := .set #[] 0 (.fresh 0 0 led) }).objs.size := by
            rw [Heap.size_push]; exact Nat.ne_of_lt (Nat.lt_succ_of_lt hb)
          exact hm.heap b o (by simp only [List.mem_cons, List.not_mem_nil, or_false, not_or]; exact ⟨hb1, hb2⟩) (Heap.get?_push_of_some _ (Heap.get?_push_of_some _ e))
      · cases r₂ with
        | error e => exact hr₂
        | ok fl₂ =>
          cases fl₂ with
          | ret r =>
            obtain ⟨rfl, h', tk, rfl, hS', hk'⟩ := hr₂
            repeat (any_goals (first | assumption | wp_step))
            exact h _ _ hS' hk'
          | _ => exact hr₂.elim
    | _ => exact hr.elim
end

-- Z5
theorem set_len : typeLookup (.type "set") "__len__" = pure (some (.builtin "set.__len__")) := by rw [typeLookup_type, builtinLookup_eq_fast]; kernel_rfl
theorem slot_set_iter : Slot "set" "__iter__" "set.__iter__" :=
  .of (owner := "set") (n := "__iter__") (by rw [typeLookup_type, builtinLookup_eq_fast]; kernel_rfl) (by decide +kernel) (by decide +kernel) (by decide +kernel)
    (by first | exact .inl (by decide +kernel) | exact .inr (by decide +kernel)) (by rw [isSubtype_type]; kernel_rfl)
theorem slot_setiter_next : Slot "set_iterator" "__next__" "set_iterator.__next__" :=
  .of (owner := "set_iterator") (n := "__next__") (by rw [typeLookup_type, builtinLookup_eq_fast]; kernel_rfl) (by decide +kernel) (by decide +kernel) (by decide +kernel)
    (by first | exact .inl (by decide +kernel) | exact .inr (by decide +kernel)) (by rw [isSubtype_type]; kernel_rfl)
theorem slot_setiter_iter : Slot "set_iterator" "__iter__" "set_iterator.__iter__" :=
  .of (owner := "set_iterator") (n := "__iter__") (by rw [typeLookup_type, builtinLookup_eq_fast]; kernel_rfl) (by decide +kernel) (by decide +kernel) (by decide +kernel)
    (by first | exact .inl (by decide +kernel) | exact .inr (by decide +kernel)) (by rw [isSubtype_type]; kernel_rfl)
theorem slot_set_len : Slot "set" "__len__" "set.__len__" :=
  .of (owner := "set") (n := "__len__") (by rw [typeLookup_type, builtinLookup_eq_fast]; kernel_rfl) (by decide +kernel) (by decide +kernel) (by decide +kernel)
    (by first | exact .inl (by decide +kernel) | exact .inr (by decide +kernel)) (by rw [isSubtype_type]; kernel_rfl)
theorem entry_set_iter : entryFor table "set.__iter__" = some Builtin.«frozenset.__iter__» :=
  entryFor_alias (id' := "frozenset.__iter__") (by kernel_rfl) rfl (by decide +kernel) (by kernel_rfl)
theorem entry_setiter_next : entryFor table "set_iterator.__next__" = some Builtin.«set_iterator.__next__» := entryFor_of_fast (by kernel_rfl)
theorem args_set_iter (a : Value) : argsOk "set.__iter__" ⟨[a], []⟩ := by unfold argsOk; kernel_rfl
theorem args_setiter_next (a : Value) : argsOk "set_iterator.__next__" ⟨[a], []⟩ := by unfold argsOk; kernel_rfl

-- Z6
section
variable {M : Model} {A : Around} {E : Value → Shared → Prop} {s : Shared}
theorem wpAny_choose' {src : Source} {n : Nat} {Q : Nat → Shared → Prop} (hn : n ≠ 0) (h : ∀ i d, i < n → Q i { s with drawn := d }) : wpAny M A (choose src n) Q E s := fun _ _ _ => ⟨hn, h _ _ (Nat.mod_lt _ (Nat.pos_of_ne_zero hn))⟩
theorem perm_erase {α : Type} : ∀ {xs : List α} {i : Nat} {x : α}, xs[i]? = some x → (x :: xs.eraseIdx i).Perm xs
  | [], i, x, h => by simp at h
  | y :: ys, 0, x, h => by simp at h; subst h; exact List.Perm.refl _
  | y :: ys, i + 1, x, h => by
    rw [List.getElem?_cons_succ] at h
    rw [List.eraseIdx_cons_succ]
    exact (List.Perm.swap _ _ _).trans ((perm_erase h).cons y)
theorem drawOrder_perm {α : Type} : ∀ (n : Nat) (xs : List α) (s : Shared) (Q : List α → Shared → Prop), n = xs.length → (∀ ys d, ys.Perm xs → Q ys { s with drawn := d }) → wpAny M A (drawOrder n xs) Q E s
  | 0, xs, s, Q, hn, h => by
    cases xs with
    | nil => exact wpAny_pure (h [] s.drawn (List.Perm.refl _))
    | cons x xs => cases hn
  | n + 1, xs, s, Q, hn, h => by
    cases hx : xs with
    | nil => rw [hx] at hn; cases hn
    | cons y ys =>
      rw [← hx]
      have e : drawOrder (n + 1) xs = (do
        let i ← choose .order xs.length
        match xs[i]? with
        | some x => return x :: (← drawOrder n (xs.eraseIdx i))
        | none => unsupported "internal:drawOrder") := by rw [hx]; rfl
      rw [e]
      refine wpAny_bind (wpAny_choose' (by omega) fun i d hi => ?_)
      have hg : xs[i]? = some xs[i] := List.getElem?_eq_getElem hi
      rw [hg]
      dsimp only
      refine wpAny_bind (drawOrder_perm n _ _ _ (by rw [List.length_eraseIdx, if_pos hi]; omega) fun zs d' hp => ?_)
      exact wpAny_pure (h _ d' ((hp.cons _).trans (perm_erase hg)))
end
theorem pick_go {α : Type} (f : Nat → Nat) : ∀ (fuel k : Nat) (left : List α) (out : Array α), fuel = left.length → (pickOrder.go f fuel k left out).toList.Perm (out.toList ++ left)
  | 0, k, left, out, h => by
    cases left with
    | nil => unfold pickOrder.go; simp
    | cons _ _ => cases h
  | fuel + 1, k, left, out, h => by
    unfold pickOrder.go
    have hl : f k % left.length < left.length := Nat.mod_lt _ (by omega)
    have hg : left[f k % left.length]? = some left[f k % left.length] := List.getElem?_eq_getElem hl
    rw [hg]
    dsimp only
    refine (pick_go f fuel (k + 1) _ _ (by rw [List.length_eraseIdx, if_pos hl]; omega)).trans ?_
    rw [Array.toList_push, List.append_assoc]
    exact (perm_erase hg).append_left _
theorem pick_perm {α : Type} (f : Nat → Nat) (xs : Array α) : (pickOrder f xs).toList.Perm xs.toList := by
  unfold pickOrder
  exact pick_go f xs.size 0 xs.toList #[] (by simp)
theorem below_zero {xs : Array Nat} (h : Asc xs) : SetTable.below xs 0 = 0 := by
  obtain ⟨h1, h2, h3⟩ := below_spec h 0
  rcases Nat.eq_zero_or_pos (SetTable.below xs 0) with e | e
  · exact e
  · exact absurd (h2 0 e) (Nat.not_lt_zero _)
theorem below_next {xs : Array Nat} (h : Asc xs) {i j : Nat} (e : xs[i]? = some j) : SetTable.below xs (j + 1) = i + 1 := by
  obtain ⟨h1, h2, h3⟩ := below_spec h (j + 1)
  obtain ⟨hi, e'⟩ := Array.getElem?_eq_some_iff.mp e
  have hj : xs.getD i 0 = j := by rw [Array.getD_eq_getD_getElem?, e]; rfl
  rcases Nat.lt_trichotomy (SetTable.below xs (j + 1)) (i + 1) with q | q | q
  · have := h3 i (by omega) hi; omega
  · exact q
  · have h4 := h2 (i + 1) q
    have h5 := h.lt (i := i) (j := i + 1) (by omega) (by omega)
    omega

-- Z7
section
variable {prog : Program} {w : World} {A : Around} {E : Value → Shared → Prop} {s : Shared}
/-- the order of a walk that no draw rules -/
def liveVals (w : World) (D : Addr) (ep : Nat) (es : Array (Int × Value)) : Array (Int × Value) := if w.params.followText "set-order" = true then pickOrder (w.params.setOrder D ep) es else es
def itO (f : Value) (i : Nat) (D : Addr) (n ep : Nat) : Obj := { cls := .type "set_iterator", data := .fields #[f, .int i 0, .ref D, .int n 0, .int ep 0] }
def stO (es : Array (Int × Value)) (ep : Nat) (t : SetTable) : Obj := { cls := .type "set", dict := none, data := .set es ep t }
theorem next_live {D : Addr} {es : Array (Int × Value)} {ep : Nat} {t : SetTable} {slot i : Nat} {Q : Option (Value × Nat) → Shared → Prop}
    (hD : s.heap.get? D = some (stO es ep t)) (hf : t.fits es.size = true) (ha : Asc t.place) (hl : w.params.followText "set-order" = false → t.led = true) (hp : w.params.followText "set-order" = false → t.plain = true ∨ es.size ≤ 1)
    (hs : w.params.followText "set-order" = false → SetTable.below t.place slot = i)
    (h : ∀ r : Option (Value × Nat), (match (liveVals w D ep es)[i]? with | none => r = none | some e => ∃ slot', r = some (e.2, slot') ∧ (w.params.followText "set-order" = false → SetTable.below t.place slot' = i + 1)) → Q r s) :
    wpAny (model prog w) A (setNext D slot i ep) Q E s := by
  have hsz : t.place.size = es.size := by simp only [SetTable.fits, Bool.and_eq_true, beq_iff_eq] at hf; exact hf.1
  unfold setNext
  refine wpAny_bind (wpAny_setState_of hD rfl hf ?_)
  dsimp only
  refine wpAny_bind ?_
  unfold setsByText
  refine wpAny_bind (wpAny_askSetting (wpAny_pure ?_))
  show wpAny _ _ (if w.params.followText "set-order" = true then _ else _) _ _ _
  by_cases bt : w.params.followText "set-order" = true
  · rw [if_pos bt]
    rw [if_neg (by simp)]
    unfold setWalk
    refine wpAny_bind (wpAny_bind (wpAny_setState_of hD rfl hf ?_))
    dsimp only
    unfold setsByText
    refine wpAny_bind (wpAny_bind (wpAny_askSetting (wpAny_pure ?_)))
    rw [if_pos (by exact bt)]
    refine wpAny_bind (wpAny_askSetting (wpAny_pure (wpAny_pure (h _ ?_))))
    unfold liveVals
    rw [if_pos bt]
    show match (pickOrder (w.params.setOrder D ep) es)[i]? with | none => _ | some e => _
    change match (pickOrder (w.params.setOrder D ep) es)[i]? with | none => Option.map (fun e => (e.2, slot)) (pickOrder (w.params.setOrder D ep) es)[i]? = none | some e => ∃ slot', Option.map (fun e => (e.2, slot)) (pickOrder (w.params.setOrder D ep) es)[i]? = some (e.2, slot') ∧ (w.params.followText "set-order" = false → SetTable.below t.place slot' = i + 1)
    cases hq : (pickOrder (w.params.setOrder D ep) es)[i]? with
    | none => rfl
    | some e => exact ⟨slot, rfl, fun z => absurd bt (by rw [z]; decide)⟩
  · have bf : w.params.followText "set-order" = false := by simpa using bt
    rw [if_neg bt]
    have hd : (!t.plain && decide (es.size > 1)) = false := by
      rcases hp bf with hp | hp
      · rw [hp]; rfl
      · simp [Nat.not_lt.mpr hp]
    show wpAny _ _ (if (!t.plain && decide (es.size > 1)) = true then _ else _) _ _ _
    rw [hd]
    simp only [Bool.false_eq_true, ↓reduceIte]
    refine wpAny_bind ?_
    show wpAny _ _ (if (!t.led && !es.isEmpty) = true then _ else _) _ _ _
    rw [hl bf]
    simp only [Bool.not_true, Bool.false_and, Bool.false_eq_true, ↓reduceIte]
    refine wpAny_pure ?_
    refine wpAny_pure (h _ ?_)
    unfold liveVals
    rw [if_neg bt, hs bf]
    cases hq : es[i]? with
    | none => rfl
    | some e =>
      have hi : i < t.place.size := by rw [hsz]; exact (Array.getElem?_eq_some_iff.mp hq).1
      have hq' : t.place[i]? = some t.place[i] := Array.getElem?_eq_getElem hi
      rw [hq']
      exact ⟨_, rfl, fun _ => below_next ha hq'⟩
end

-- Z8
section
variable {prog : Program} {w : World} {A : Around} {E : Value → Shared → Prop} {s : Shared}
/-- one step of a live walk -/
theorem live_item {I D : Addr} {es : Array (Int × Value)} {ep : Nat} {t : SetTable} {slot i : Nat} {e : Int × Value} {Q : Option Value → Shared → Prop}
    (hI : s.heap.get? I = some (itO (.int slot 0) i D es.size ep)) (hD : s.heap.get? D = some (stO es ep t)) (hf : t.fits es.size = true) (ha : Asc t.place) (hl : w.params.followText "set-order" = false → t.led = true) (hp : w.params.followText "set-order" = false → t.plain = true ∨ es.size ≤ 1)
    (hs : w.params.followText "set-order" = false → SetTable.below t.place slot = i) (he : (liveVals w D ep es)[i]? = some e)
    (hQ : ∀ h' slot', h'.get? I = some (itO (.int (slot' : Nat) 0) (i + 1) D es.size ep) → (w.params.followText "set-order" = false → SetTable.below t.place slot' = i + 1) → Heap.SameBut I s.heap h' → Q (some e.2) { s with heap := h' }) :
    wpAny (model prog w) A (pyNext (.ref I)) Q E s := by
  have hT : s.TypeIs (.ref I) "set_iterator" := ⟨_, hI, rfl⟩
  unfold pyNext
  refine wpAny_bind (wpAny_attempt (wpAny_callSpecial?_slot (name := Str.ofString "__next__") hT slot_setiter_next
    (wpAny_call_entry slot_setiter_next hT entry_setiter_next ?_ (args_setiter_next _))))
  show wpAny _ _ (fieldsOf (.ref I) >>= _) _ _ s
  refine wpAny_bind (wpAny_fieldsOf hI rfl ?_)
  show wpAny _ _ (setEntries D >>= _) _ _ s
  refine wpAny_bind (wpAny_setEntries_of hD rfl hf ?_)
  rw [if_neg (by simp)]
  show wpAny _ _ (setNext D (Int.toNat slot) (Int.toNat i) (Int.toNat ep) >>= _) _ _ s
  simp only [Int.toNat_natCast]
  refine wpAny_bind (next_live hD hf ha hl hp hs fun r hr => ?_)
  rw [he] at hr
  obtain ⟨slot', rfl, hs'⟩ := hr
  dsimp only
  refine wpAny_bind (wpAny_setField hI rfl (by simp) ?_)
  have hI1 := Heap.get?_update_self (Obj.mapFields (·.setIfInBounds 0 (rawInt slot'))) hI rfl
  refine wpAny_bind (wpAny_setField hI1 rfl (by simp) ?_)
  have hI2 := Heap.get?_update_self (Obj.mapFields (·.setIfInBounds 1 (rawInt (i + 1)))) hI1 rfl
  refine wpAny_pure ⟨_, rfl, wpAny_pure (hQ _ slot' hI2 hs' ((Heap.SameBut.update ..).trans (Heap.SameBut.update ..)))⟩
theorem live_end {I D : Addr} {es : Array (Int × Value)} {ep : Nat} {t : SetTable} {slot i : Nat} {Q : Option Value → Shared → Prop} (hh : A.handled = none)
    (hI : s.heap.get? I = some (itO (.int slot 0) i D es.size ep)) (hD : s.heap.get? D = some (stO es ep t)) (hf : t.fits es.size = true) (ha : Asc t.place) (hl : w.params.followText "set-order" = false → t.led = true) (hp : w.params.followText "set-order" = false → t.plain = true ∨ es.size ≤ 1)
    (hs : w.params.followText "set-order" = false → SetTable.below t.place slot = i) (he : (liveVals w D ep es)[i]? = none)
    (hQ : ∀ h', Heap.ExtBut I s.heap h' → Q none { s with heap := h' }) :
    wpAny (model prog w) A (pyNext (.ref I)) Q E s := by
  have hT : s.TypeIs (.ref I) "set_iterator" := ⟨_, hI, rfl⟩
  unfold pyNext
  refine wpAny_bind (wpAny_attempt (wpAny_callSpecial?_slot (name := Str.ofString "__next__") hT slot_setiter_next
    (wpAny_call_entry slot_setiter_next hT entry_setiter_next ?_ (args_setiter_next _))))
  show wpAny _ _ (fieldsOf (.ref I) >>= _) _ _ s
  refine wpAny_bind (wpAny_fieldsOf hI rfl ?_)
  show wpAny _ _ (setEntries D >>= _) _ _ s
  refine wpAny_bind (wpAny_setEntries_of hD rfl hf ?_)
  rw [if_neg (by simp)]
  show wpAny _ _ (setNext D (Int.toNat slot) (Int.toNat i) (Int.toNat ep) >>= _) _ _ s
  simp only [Int.toNat_natCast]
  refine wpAny_bind (next_live hD hf ha hl hp hs fun r hr => ?_)
  rw [he] at hr
  subst hr
  dsimp only
  refine wpAny_bind (wpAny_setField hI rfl (by simp) ?_)
  show wpAny _ _ (newExc (.type "StopIteration") [] >>= _) _ _ _
  refine wpAny_bind ?_
  simp only [newExc, newTuple]
  refine wpAny_bind (wpAny_newObj_type ?_ (by size_fits))
  refine wpAny_bind (m := firstArgMember _ _) (wpAny_of_eq (a := Value.none) (by first | rfl | (simp only [firstArgMember]; rfl)) ?_)
  refine wpAny_newObj_type ?_ (by size_fits)
  simp only [raiseNew]
  refine wpAny_bind (wpAny_handled ?_)
  rw [show A.in1.handled = none from hh]
  refine wpAny_bind (wpAny_pure (wpAny_throw ?_))
  refine wpAny_bind (wpAny_isInstance (T := "StopIteration") (b := true) ⟨_, Heap.get?_push_size _ rfl, rfl⟩ isSubtype_stop ?_)
  exact wpAny_pure (hQ _ (((Heap.SameBut.update ..).extBut.push _).push _))
end

-- Z9
section
variable {prog : Program} {w : World} {A : Around} {E : Value → Shared → Prop} {s : Shared}
def plO (ps : List Nat) : Obj := { cls := .type "tuple", data := .seq (ps.map fun (i : Nat) => rawInt i).toArray }
theorem drawn_item {I D T : Addr} {es : Array (Int × Value)} {ep : Nat} {t : SetTable} {ps : List Nat} {i j : Nat} {e : Int × Value} {Q : Option Value → Shared → Prop}
    (hI : s.heap.get? I = some (itO (.ref T) i D es.size ep)) (hD : s.heap.get? D = some (stO es ep t)) (hT : s.heap.get? T = some (plO ps)) (hf : t.fits es.size = true)
    (hj : ps[i]? = some j) (he : es[j]? = some e)
    (hQ : ∀ h', h'.get? I = some (itO (.ref T) (i + 1) D es.size ep) → Heap.SameBut I s.heap h' → Q (some e.2) { s with heap := h' }) :
    wpAny (model prog w) A (pyNext (.ref I)) Q E s := by
  have hTy : s.TypeIs (.ref I) "set_iterator" := ⟨_, hI, rfl⟩
  unfold pyNext
  refine wpAny_bind (wpAny_attempt (wpAny_callSpecial?_slot (name := Str.ofString "__next__") hTy slot_setiter_next
    (wpAny_call_entry slot_setiter_next hTy entry_setiter_next ?_ (args_setiter_next _))))
  show wpAny _ _ (fieldsOf (.ref I) >>= _) _ _ s
  refine wpAny_bind (wpAny_fieldsOf hI rfl ?_)
  show wpAny _ _ (setEntries D >>= _) _ _ s
  refine wpAny_bind (wpAny_setEntries_of hD rfl hf ?_)
  rw [if_neg (by simp)]
  show wpAny _ _ (seqItems? (.ref T) >>= _) _ _ s
  refine wpAny_bind (wpAny_seqItems hT rfl ?_)
  have hg : (ps.map fun (i : Nat) => rawInt i).toArray[Int.toNat i]? = some (.int j 0) := by
    rw [Int.toNat_natCast, List.getElem?_toArray, List.getElem?_map, hj]; rfl
  simp only [hg]
  refine wpAny_bind (m := setNextDrawn D (Int.toNat j) (Int.toNat ep)) ?_
  unfold setNextDrawn
  refine wpAny_bind (wpAny_setState_of hD rfl hf ?_)
  dsimp only
  rw [if_neg (by simp)]
  rw [Int.toNat_natCast, he]
  refine wpAny_pure ?_
  refine wpAny_bind (wpAny_setField hI rfl (by simp) ?_)
  have hI1 := Heap.get?_update_self (Obj.mapFields (·.setIfInBounds 1 (rawInt (i + 1)))) hI rfl
  exact wpAny_pure ⟨_, rfl, wpAny_pure (hQ _ hI1 (Heap.SameBut.update ..))⟩
theorem drawn_end {I D T : Addr} {es : Array (Int × Value)} {ep : Nat} {t : SetTable} {ps : List Nat} {i : Nat} {Q : Option Value → Shared → Prop} (hh : A.handled = none)
    (hI : s.heap.get? I = some (itO (.ref T) i D es.size ep)) (hD : s.heap.get? D = some (stO es ep t)) (hT : s.heap.get? T = some (plO ps)) (hf : t.fits es.size = true)
    (hj : ps[i]? = none)
    (hQ : ∀ h', Heap.ExtBut I s.heap h' → Q none { s with heap := h' }) :
    wpAny (model prog w) A (pyNext (.ref I)) Q E s := by
  have hTy : s.TypeIs (.ref I) "set_iterator" := ⟨_, hI, rfl⟩
  unfold pyNext
  refine wpAny_bind (wpAny_attempt (wpAny_callSpecial?_slot (name := Str.ofString "__next__") hTy slot_setiter_next
    (wpAny_call_entry slot_setiter_next hTy entry_setiter_next ?_ (args_setiter_next _))))
  show wpAny _ _ (fieldsOf (.ref I) >>= _) _ _ s
  refine wpAny_bind (wpAny_fieldsOf hI rfl ?_)
  show wpAny _ _ (setEntries D >>= _) _ _ s
  refine wpAny_bind (wpAny_setEntries_of hD rfl hf ?_)
  rw [if_neg (by simp)]
  show wpAny _ _ (seqItems? (.ref T) >>= _) _ _ s
  refine wpAny_bind (wpAny_seqItems hT rfl ?_)
  have hg : (ps.map fun (i : Nat) => rawInt i).toArray[Int.toNat i]? = none := by
    rw [Int.toNat_natCast, List.getElem?_toArray, List.getElem?_map, hj]; rfl
  simp only [hg]
  refine wpAny_bind (wpAny_setField hI rfl (by simp) ?_)
  have hI1 := Heap.get?_update_self (Obj.mapFields (·.setIfInBounds 0 (rawInt 0))) hI rfl
  refine wpAny_bind (wpAny_setField hI1 rfl (by simp) ?_)
  show wpAny _ _ (newExc (.type "StopIteration") [] >>= _) _ _ _
  refine wpAny_bind ?_
  simp only [newExc, newTuple]
  refine wpAny_bind (wpAny_newObj_type ?_ (by size_fits))
  refine wpAny_bind (m := firstArgMember _ _) (wpAny_of_eq (a := Value.none) (by first | rfl | (simp only [firstArgMember]; rfl)) ?_)
  refine wpAny_newObj_type ?_ (by size_fits)
  simp only [raiseNew]
  refine wpAny_bind (wpAny_handled ?_)
  rw [show A.in1.handled = none from hh]
  refine wpAny_bind (wpAny_pure (wpAny_throw ?_))
  refine wpAny_bind (wpAny_isInstance (T := "StopIteration") (b := true) ⟨_, Heap.get?_push_size _ rfl, rfl⟩ isSubtype_stop ?_)
  exact wpAny_pure (hQ _ ((((Heap.SameBut.update ..).trans (Heap.SameBut.update ..)).extBut.push _).push _))
end

-- Z10
section
variable {prog : Program} {w : World} {A : Around} {E : Value → Shared → Prop} {s : Shared}
theorem entry_setiter_iter : entryFor table "set_iterator.__iter__" = some Builtin.«dict_keyiterator.__iter__» :=
  entryFor_alias (id' := "dict_keyiterator.__iter__") (by kernel_rfl) rfl (by decide +kernel) (by kernel_rfl)
theorem args_setiter_iter (a : Value) : argsOk "set_iterator.__iter__" ⟨[a], []⟩ := by unfold argsOk; kernel_rfl
theorem iter_setiter {it : Addr} {Q : Value → Shared → Prop} (hit : s.TypeIs (.ref it) "set_iterator") (h : Q (.ref it) s) :
    wpAny (model prog w) A (pyIter (.ref it)) Q E s := by
  refine wpAny_pyIter_slot hit slot_setiter_iter (wpAny_call_entry slot_setiter_iter hit entry_setiter_iter ?_ (args_setiter_iter _))
  show wpAny _ _ (ret (.ref it)) _ _ s
  exact wpAny_pure ⟨_, rfl, "set_iterator", _, hit, slot_setiter_next.lookup, h⟩
theorem liveVals_perm (w : World) (D : Addr) (ep : Nat) (es : Array (Int × Value)) : (liveVals w D ep es).toList.Perm es.toList := by
  unfold liveVals
  split
  · exact pick_perm _ _
  · exact List.Perm.refl _
theorem liveVals_size (w : World) (D : Addr) (ep : Nat) (es : Array (Int × Value)) : (liveVals w D ep es).size = es.size := by
  have := (liveVals_perm w D ep es).length_eq; simpa using this
theorem walkLive (hh : A.handled = none) {I D : Addr} (hne : D ≠ I) {es : Array (Int × Value)} {ep : Nat} {t : SetTable} (hf : t.fits es.size = true) (ha : Asc t.place) (hl : w.params.followText "set-order" = false → t.led = true) (hp : w.params.followText "set-order" = false → t.plain = true ∨ es.size ≤ 1) :
    WalksS prog w A I [I, D] [I] (fun a b => b = a) es.size (fun i v => ∃ e, (liveVals w D ep es)[i]? = some e ∧ v = e.2)
      (fun i s => (∃ slot : Nat, s.heap.get? I = some (itO (.int slot 0) i D es.size ep) ∧ (w.params.followText "set-order" = false → SetTable.below t.place slot = i)) ∧ s.heap.get? D = some (stO es ep t)) where
  sub := fun b hb => by simp at hb; simp [hb]
  grefl := fun _ => rfl
  gtrans := fun _ _ _ h1 h2 => h2.trans h1
  frame := fun i s h' tk st _ hk => ⟨let ⟨sl, h1, h2⟩ := st.1; ⟨sl, hk I (by simp) _ h1, h2⟩, hk D (by simp) _ st.2⟩
  item := fun i s Q E hi st hQ => by
    obtain ⟨⟨sl, h1, h2⟩, h3⟩ := st
    have he : (liveVals w D ep es)[i]? = some ((liveVals w D ep es)[i]'(by rw [liveVals_size]; exact hi)) := Array.getElem?_eq_getElem _
    refine live_item h1 h3 hf ha hl hp h2 he fun h' sl' g1 g2 g3 => ?_
    refine hQ _ _ ⟨_, he, rfl⟩ ⟨⟨sl', g1, g2⟩, ?_⟩ ⟨fun b o hb e => ?_, rfl, rfl, rfl, Nat.le_refl _⟩
    · rw [g3.2 D hne]; exact h3
    · rw [g3.2 b (fun h => hb (by simp [h]))]; exact e
  done := fun s Q E st hQ => by
    obtain ⟨⟨sl, h1, h2⟩, h3⟩ := st
    refine live_end hh h1 h3 hf ha hl hp h2 (by rw [Array.getElem?_eq_none]; rw [liveVals_size]; exact Nat.le_refl _) fun h' g => ?_
    exact hQ _ ⟨fun b o hb e => g b o (fun h => hb (by simp [h])) e, rfl, rfl, rfl, Nat.le_refl _⟩
  self := fun i s Q E st hQ => by
    obtain ⟨⟨sl, h1, h2⟩, h3⟩ := st
    exact iter_setiter ⟨_, h1, rfl⟩ hQ
theorem walkDrawn (hh : A.handled = none) {I D T : Addr} (hne : D ≠ I) (hneT : T ≠ I) {es : Array (Int × Value)} {ep : Nat} {t : SetTable} (hf : t.fits es.size = true) {ps : List Nat} (hps : ps.Perm (List.range es.size)) :
    WalksS prog w A I [I, D, T] [I] (fun a b => b = a) es.size (fun i v => ∃ j e, ps[i]? = some j ∧ es[j]? = some e ∧ v = e.2)
      (fun i s => s.heap.get? I = some (itO (.ref T) i D es.size ep) ∧ s.heap.get? D = some (stO es ep t) ∧ s.heap.get? T = some (plO ps)) where
  sub := fun b hb => by simp at hb; simp [hb]
  grefl := fun _ => rfl
  gtrans := fun _ _ _ h1 h2 => h2.trans h1
  frame := fun i s h' tk st _ hk => ⟨hk I (by simp) _ st.1, hk D (by simp) _ st.2.1, hk T (by simp) _ st.2.2⟩
  item := fun i s Q E hi st hQ => by
    obtain ⟨h1, h2, h3⟩ := st
    have hl : ps.length = es.size := by have := hps.length_eq; simpa using this
    have hj : ps[i]? = some (ps[i]'(by omega)) := List.getElem?_eq_getElem _
    have hm : ps[i]'(by omega) < es.size := List.mem_range.mp (hps.mem_iff.mp (List.getElem_mem _))
    have he : es[ps[i]'(by omega)]? = some (es[ps[i]'(by omega)]'hm) := Array.getElem?_eq_getElem _
    refine drawn_item h1 h2 h3 hf hj he fun h' g1 g3 => ?_
    refine hQ _ _ ⟨_, _, hj, he, rfl⟩ ⟨g1, ?_, ?_⟩ ⟨fun b o hb e => ?_, rfl, rfl, rfl, Nat.le_refl _⟩
    · rw [g3.2 D hne]; exact h2
    · rw [g3.2 T hneT]; exact h3
    · rw [g3.2 b (fun h => hb (by simp [h]))]; exact e
  done := fun s Q E st hQ => by
    obtain ⟨h1, h2, h3⟩ := st
    have hl : ps.length = es.size := by have := hps.length_eq; simpa using this
    refine drawn_end hh h1 h2 h3 hf (by rw [List.getElem?_eq_none]; omega) fun h' g => ?_
    exact hQ _ ⟨fun b o hb e => g b o (fun h => hb (by simp [h])) e, rfl, rfl, rfl, Nat.le_refl _⟩
  self := fun i s Q E st hQ => iter_setiter ⟨_, st.1, rfl⟩ hQ
end

-- Z11
section
variable {prog : Program} {w : World} {A : Around} {E : Value → Shared → Prop} {s : Shared}
theorem iter_set {D : Addr} {ep : Nat} {es : Array (Int × Value)} {t : SetTable} {σ : List Int} (H : SI prog w s.heap D ep es t σ) {Q : Value → Shared → Prop}
    (h1 : (w.params.followText "set-order" = false → t.plain = true ∨ es.size ≤ 1) → Q (.ref s.heap.objs.size) { s with heap := s.heap.push (itO (.int (0 : Nat) 0) 0 D es.size ep) })
    (h2 : ∀ d ps, ps.Perm (List.range es.size) → Q (.ref (s.heap.objs.size + 1)) { s with heap := (s.heap.push (plO ps)).push (itO (.ref s.heap.objs.size) 0 D es.size ep), drawn := d }) :
    wpAny (model prog w) A (pyIter (.ref D)) Q E s := by
  have hT : s.TypeIs (.ref D) "set" := ⟨_, H.ob, rfl⟩
  refine wpAny_pyIter_slot hT slot_set_iter (wpAny_call_entry slot_set_iter hT entry_set_iter ?_ (args_set_iter _))
  show wpAny _ _ (setEntries D >>= _ >>= _) _ _ s
  refine wpAny_bind (wpAny_bind (wpAny_setEntries_of H.ob rfl H.ft (wpAny_pure ?_)))
  unfold setDrawn
  refine wpAny_bind ?_
  refine wpAny_bind (wpAny_setState_of H.ob rfl H.ft ?_)
  dsimp only
  unfold setsByText
  refine wpAny_bind (wpAny_bind (wpAny_askSetting (wpAny_pure ?_)))
  refine wpAny_pure ?_
  show wpAny _ _ (if (!w.params.followText "set-order" && (!t.plain && decide (es.size > 1))) = true then _ else _) _ _ _
  by_cases c : (!w.params.followText "set-order" && (!t.plain && decide (es.size > 1))) = true
  · rw [if_pos c]
    refine wpAny_bind (drawOrder_perm _ _ _ _ (by simp) fun ps d hp => ?_)
    refine wpAny_bind (m := newTuple _) ?_
    unfold newTuple
    refine wpAny_newObj_type ?_ (by
      show (ps.map _).toArray.size ≤ sizeLine
      have := hp.length_eq
      rw [List.size_toArray, List.length_map, this, List.length_range]
      exact fits_of_scanBound H.sz)
    refine wpAny_bind (wpAny_setEpoch_of (Heap.get?_push_of_some _ H.ob) rfl H.ft ?_)
    refine wpAny_bind (m := newFields _ _) (wpAny_newObj_type ?_)
    refine wpAny_pure ⟨_, rfl, "set_iterator", _, ⟨_, Heap.get?_push_size _ rfl, rfl⟩, slot_setiter_next.lookup, ?_⟩
    have := h2 d ps hp
    rw [Heap.size_push]
    exact this
  · rw [if_neg c]
    refine wpAny_bind (wpAny_pure ?_)
    refine wpAny_bind (wpAny_setEpoch_of H.ob rfl H.ft ?_)
    refine wpAny_bind (m := newFields _ _) (wpAny_newObj_type ?_)
    refine wpAny_pure ⟨_, rfl, "set_iterator", _, ⟨_, Heap.get?_push_size _ rfl, rfl⟩, slot_setiter_next.lookup, ?_⟩
    refine h1 fun e => ?_
    rw [e] at c
    cases hp : t.plain with
    | true => exact .inl rfl
    | false => rw [hp] at c; simp at c; exact .inr c
end

-- Z12
section
variable {prog : Program} {w : World} {A : Around} {E : Value → Shared → Prop} {s : Shared}
theorem mem_vals {es : Array (Int × Value)} {xs : Array (Int × Value)} (h : xs.toList.Perm es.toList) {acc : Array Value} (ha : ItemsOf (fun i v => ∃ e, xs[i]? = some e ∧ v = e.2) acc xs.size) : acc.toList = xs.toList.map (·.2) := by
  refine List.ext_getElem? fun i => ?_
  rw [List.getElem?_map, Array.getElem?_toList, Array.getElem?_toList]
  cases q : acc[i]? with
  | none =>
    have : acc.size ≤ i := Array.getElem?_eq_none_iff.mp q
    rw [Array.getElem?_eq_none (by rw [← ha.1]; exact this)]; rfl
  | some v =>
    obtain ⟨e, he, rfl⟩ := ha.2 i v q
    rw [he]; rfl
theorem perm_pick {es : Array (Int × Value)} {ps : List Nat} (hp : ps.Perm (List.range es.size)) {acc : Array Value} (ha : ItemsOf (fun i v => ∃ j e, ps[i]? = some j ∧ es[j]? = some e ∧ v = e.2) acc es.size) : acc.toList.Perm (es.toList.map (·.2)) := by
  have e : acc.toList = (ps.filterMap (fun j => es[j]?)).map (·.2) := by
    have hq : ∀ j ∈ ps, ∃ e, es[j]? = some e := fun j hj => ⟨_, Array.getElem?_eq_getElem (List.mem_range.mp (hp.mem_iff.mp hj))⟩
    have hl : ps.length = es.size := by have := hp.length_eq; simpa using this
    have hm : ps.filterMap (fun j => es[j]?) = ps.map (fun j => es.getD j default) := by
      clear ha hp hl
      induction ps with
      | nil => rfl
      | cons j ps ih =>
        obtain ⟨e, he⟩ := hq j (.head _)
        rw [List.filterMap_cons, he, ih fun j hj => hq j (.tail _ hj), List.map_cons]
        dsimp only
        rw [Array.getD_eq_getD_getElem?, he]; rfl
    rw [hm, List.map_map]
    refine List.ext_getElem? fun i => ?_
    rw [List.getElem?_map, Array.getElem?_toList]
    cases q : acc[i]? with
    | none =>
      have : acc.size ≤ i := Array.getElem?_eq_none_iff.mp q
      rw [List.getElem?_eq_none (by rw [hl, ← ha.1]; exact this)]; rfl
    | some v =>
      obtain ⟨j, e, hj, he, rfl⟩ := ha.2 i v q
      rw [hj]
      show some e.2 = some ((es.getD j default).2)
      rw [Array.getD_eq_getD_getElem?, he]; rfl
  rw [e]
  exact ((hp.filterMap _).trans (by rw [filterMap_getElem?_range])).map _
theorem set_extend {I L D : Addr} {fp : List Addr} {n : Nat} {P : Nat → Value → Prop} {St : Nat → Shared → Prop} (W : WalksS prog w A.in1 I fp [I] (fun a b => b = a) n P St) {R : Result → Shared → Prop} (hn : n ≤ sizeLine) (hL : L ∉ fp) (hst : St 0 s)
    (ho : s.heap.get? L = some { cls := .type "list", dict := none, data := .seq #[] 0, slots := #[] })
    (hR : ∀ s' acc c, Moved [L, I] (fun a b => b = a) s s' → s'.heap.get? L = some { cls := .type "list", dict := none, data := .seq acc c, slots := #[] } → ItemsOf P acc n → R (.ok (.ret (.ref L))) s') :
    codeAny (model prog w) A (.builtin "list.extend.loop" ⟨[.ref L, .ref I, .ref L], []⟩) R s :=
  codeAny_extend_loopS W hn L hL (.ref L) n 0 s #[] 0 rfl (Nat.zero_le _) hst ho (ItemsOf.nil P) hR
end

-- Z13
section
variable {prog : Program} {w : World} {A : Around} {E : Value → Shared → Prop} {s : Shared}
def emL (c : Nat) (acc : Array Value) : Obj := { cls := .type "list", dict := none, data := .seq acc c, slots := #[] }
theorem set_tail {I L D : Addr} {fp : List Addr} {n : Nat} {P : Nat → Value → Prop} {St : Nat → Shared → Prop} (W : WalksS prog w A.in1 I fp [I] (fun a b => b = a) n P St) {R : Result → Shared → Prop} {bb : Bool} (hbb : bb = true) (hn : n ≤ sizeLine) (hL : L ∉ fp) (hst : St 0 s)
    (ho : s.heap.get? L = some (emL 0 #[])) (hT : s.TypeIs (.ref D) "set")
    (hR : ∀ s' acc c, Moved [L, I] (fun a b => b = a) s s' → s'.heap.get? L = some (emL c acc) → ItemsOf P acc n → R (.ok (.ret (.ref L))) s') :
    wpAny (model prog w) A.in1 (do
      let room ← holding [.ref I] (Builtin.List.listLengthHint (.ref D))
      if (room || bb) = true then do
        rule "list.extend.makes-room"
        Builtin.List.listTouch (.ref L)
        again (.builtin "list.extend.loop" ⟨[.ref L, .ref I, .ref L], []⟩)
      else again (.builtin "list.extend.loop" ⟨[.ref L, .ref I, .ref L], []⟩)) (fun fin s' => match fin with | .done f => R (.ok f) s' | .again c => c.quiet = true ∧ codeAny (model prog w) A c R s') (fun e s' => R (.error e) s') s := by
  refine wpAny_bind (wpAny_holding ?_)
  unfold Builtin.List.listLengthHint
  refine wpAny_bind (wpAny_specialOf hT set_len ?_)
  (generalize hid : ("set.__len__" : String) = id0; (fail_if_success (clear hid id0)); wp_delta; rw [show splitId id0 = some ("set", "__len__") from by subst hid; decide +kernel]; subst hid)
  refine wpAny_bind (wpAny_isInstance (b := true) hT (by rw [isSubtype_type]; kernel_rfl) ?_)
  show wpAny _ _ (typeOf (.ref D) >>= _) _ _ _
  refine wpAny_bind (wpAny_typeOf hT ?_)
  refine wpAny_pure ?_
  subst hbb
  rw [if_pos (by decide)]
  refine wpAny_bind (wpAny_rule ?_)
  refine wpAny_bind ?_
  show wpAny _ A.in1 (updateSeq L (·.push .none) >>= fun _ => updateSeq L (·.pop)) _ _ _
  refine wpAny_bind (wpAny_updateSeq ho rfl ?_)
  have hS₂ := Heap.get?_update_self (Obj.mapSeq (·.push Value.none)) ho rfl
  refine wpAny_updateSeq hS₂ rfl ?_
  have hS₃ := Heap.get?_update_self (Obj.mapSeq (·.pop)) hS₂ rfl
  have oth : ∀ b o, b ≠ L → s.heap.get? b = some o → ((s.heap.update L (Obj.mapSeq (·.push Value.none))).update L (Obj.mapSeq (·.pop))).get? b = some o :=
    fun b o hb e => (Heap.get?_update_other _ _ (Ne.symm hb)).trans ((Heap.get?_update_other _ _ (Ne.symm hb)).trans e)
  refine wpAny_pure ⟨plainId_quiet PySem.F.plain_extend_loop _, codeAny_extend_loopS W hn L hL _ n 0 _ _ _ rfl (Nat.zero_le _)
    (W.frame 0 s _ s.toks hst (Nat.le_refl _) fun b hb o e => oth b o (fun h => hL (h ▸ hb)) e) hS₃ (ItemsOf.nil P) fun s' acc c hm hS' hacc => ?_⟩
  have m1 : Moved [L, I] (fun a b => b = a) s { s with heap := (s.heap.update L (Obj.mapSeq (·.push Value.none))).update L (Obj.mapSeq (·.pop)) } :=
    ⟨fun b o hb e => oth b o (fun h => hb (by rw [h]; exact List.mem_cons_self)) e, rfl, rfl, rfl, Nat.le_refl _⟩
  exact hR s' acc c (Moved.trans (fun _ _ _ h1 h2 => h2.trans h1) m1 hm) hS' hacc
end

-- Z14
section
variable {prog : Program} {w : World} {A : Around} {E : Value → Shared → Prop} {s : Shared}
theorem iadd_set (hh : A.handled = none) {D : Addr} {ep : Nat} {es : Array (Int × Value)} {t : SetTable} {σ : List Int} (H : SI prog w s.heap D ep es t σ) {R : Result → Shared → Prop}
    (fin : ∀ (s2 : Shared) (I : Addr) s' acc c, s.heap.objs.size < I → (∀ b o, (s.heap.push (emL 0 #[])).get? b = some o → s2.heap.get? b = some o) → s2.gens = s.gens → s2.os = s.os → (acc.toList.Perm (es.toList.map (·.2))) →
      Moved [s.heap.objs.size, I] (fun a b => b = a) s2 s' → s'.heap.get? s.heap.objs.size = some (emL c acc) → R (.ok (.ret (.ref s.heap.objs.size))) s') :
    codeAny (model prog w) A (.builtin "list.__iadd__" ⟨[.ref s.heap.objs.size, .ref D], []⟩) R { s with heap := s.heap.push (emL 0 #[]) } := by
  have hn : es.size ≤ sizeLine := fits_of_scanBound H.sz
  have hh2 : A.in1.handled = none := by simp [hh]
  refine codeAny_builtin PySem.F.entry_list_iadd ?_
  rw [Around.under_plainId PySem.F.plain_list_iadd _]
  have hDlt : D < s.heap.objs.size := Heap.lt_size H.ob
  have hS₁ : (s.heap.push (emL 0 #[])).get? s.heap.objs.size = some (emL 0 #[]) := Heap.get?_push_size _ rfl
  have H1 : SI prog w (s.heap.push (emL 0 #[])) D ep es t σ := { H with ob := Heap.get?_push_of_some _ H.ob }
  have h1 : Builtin.List.listSameRef (.ref s.heap.objs.size) (.ref D) = false := by
    have : s.heap.objs.size ≠ D := Nat.ne_of_gt hDlt
    simp [Builtin.List.listSameRef, this]
  have hT : Shared.TypeIs { s with heap := s.heap.push (emL 0 #[]) } (.ref D) "set" := ⟨_, H1.ob, rfl⟩
  have hs1 : (s.heap.push (emL 0 #[])).objs.size = s.heap.objs.size + 1 := Heap.size_push _ _
  have lt1 : s.heap.objs.size < (s.heap.push (emL 0 #[])).objs.size := by rw [hs1]; exact Nat.lt_succ_self _
  have lt2 : D < (s.heap.push (emL 0 #[])).objs.size := Nat.lt_trans hDlt lt1
  have lt3 : (s.heap.push (emL 0 #[])).objs.size < (s.heap.push (emL 0 #[])).objs.size + 1 := Nat.lt_succ_self _
  show wpAny _ A.in1 (Builtin.List.listExtendWith (.ref s.heap.objs.size) (.ref D) (.ref s.heap.objs.size)) _ _ _
  unfold Builtin.List.listExtendWith
  refine wpAny_bind (wpAny_typeOf hT ?_)
  rw [if_neg (by rw [h1]; decide)]
  refine wpAny_bind (iter_set H1 (fun hp => ?_) fun d ps hp => ?_)
  · refine set_tail (walkLive hh2 (ep := ep) (I := (s.heap.push (emL 0 #[])).objs.size) (D := D) (Nat.ne_of_lt lt2) H.ft H.asc H.led hp) ?_ hn (by simp only [List.mem_cons, List.not_mem_nil, or_false, not_or]; exact ⟨Nat.ne_of_lt lt1, Nat.ne_of_gt hDlt⟩) ?_ ?_ ?_ fun s' acc c m hL ha => ?_
    · decide +kernel
    · exact ⟨⟨0, Heap.get?_push_size _ rfl, fun _ => below_zero H.asc⟩, Heap.get?_push_of_some _ H1.ob⟩
    · exact Heap.get?_push_of_some _ hS₁
    · exact ⟨_, Heap.get?_push_of_some _ H1.ob, rfl⟩
    · refine fin _ _ s' acc c lt1 ?_ ?_ ?_ ?_ m hL <;> first | exact fun b o e => Heap.get?_push_of_some _ e | rfl | skip
      rw [mem_vals (liveVals_perm w D ep es) (by rw [liveVals_size]; exact ha)]
      exact (liveVals_perm w D ep es).map _
  · refine set_tail (walkDrawn hh2 (ep := ep) (I := (s.heap.push (emL 0 #[])).objs.size + 1) (D := D) (T := (s.heap.push (emL 0 #[])).objs.size) (Nat.ne_of_lt (Nat.lt_trans lt2 lt3)) (Nat.ne_of_lt lt3) H.ft hp) ?_ hn (by simp only [List.mem_cons, List.not_mem_nil, or_false, not_or]; exact ⟨Nat.ne_of_lt (Nat.lt_trans lt1 lt3), Nat.ne_of_gt hDlt, Nat.ne_of_lt lt1⟩) ?_ ?_ ?_ fun s' acc c m hL ha => ?_
    · decide +kernel
    · refine ⟨?_, Heap.get?_push_of_some _ (Heap.get?_push_of_some _ H1.ob), Heap.get?_push_of_some _ (Heap.get?_push_size _ rfl)⟩
      rw [show (s.heap.push (emL 0 #[])).objs.size + 1 = ((s.heap.push (emL 0 #[])).push (plO ps)).objs.size from (Heap.size_push _ _).symm]
      exact Heap.get?_push_size _ rfl
    · exact Heap.get?_push_of_some _ (Heap.get?_push_of_some _ hS₁)
    · exact ⟨_, Heap.get?_push_of_some _ (Heap.get?_push_of_some _ H1.ob), rfl⟩
    · refine fin _ _ s' acc c (Nat.lt_trans lt1 lt3) ?_ ?_ ?_ ?_ m hL
      · exact fun b o e => Heap.get?_push_of_some _ (Heap.get?_push_of_some _ e)
      · rfl
      · rfl
      · exact perm_pick hp ha
theorem collect_set (hh : A.handled = none) {D : Addr} {ep : Nat} {es : Array (Int × Value)} {t : SetTable} {σ : List Int} (H : SI prog w s.heap D ep es t σ) {Q : List Value → Shared → Prop}
    (hQ : ∀ s' vs, (∀ b o, s.heap.get? b = some o → s'.heap.get? b = some o) → s'.gens = s.gens → s'.os = s.os → s.heap.objs.size ≤ s'.heap.objs.size → vs.Perm (es.toList.map (·.2)) → Q vs s') :
    wpAny (model prog w) A (collect (.ref D)) Q E s := by
  have hn : es.size ≤ sizeLine := fits_of_scanBound H.sz
  have hh2 : A.in1.handled = none := by simp [hh]
  unfold collect
  refine wpAny_bind (wpAny_runValue (codeAny_builtin PySem.F.entry_proto_collect ?_))
  rw [Around.under_plainId PySem.F.plain_proto_collect _]
  show wpAny _ A.in1 (newList [] >>= fun l => again (.builtin "list.__iadd__" ⟨[l, .ref D], []⟩)) _ _ s
  refine wpAny_bind (wpAny_newObj_type ?_)
  refine wpAny_pure ⟨plainId_quiet PySem.F.plain_list_iadd _, iadd_set hh H fun s2 I s' acc c hI k2 g2 o2 hp m hL => ?_⟩
  refine wpAny_bind (wpAny_load hL (wpAny_pure (hQ s' _ (fun b o e => ?_) (m.gens.trans g2) (m.os.trans o2) (Nat.le_of_lt (Heap.lt_size hL)) hp)))
  have hb : b < s.heap.objs.size := Heap.lt_size e
  exact m.heap b o (by simp only [List.mem_cons, List.not_mem_nil, or_false, not_or]; exact ⟨Nat.ne_of_lt hb, Nat.ne_of_lt (Nat.lt_trans hb hI)⟩) (k2 b o (Heap.get?_push_of_some _ e))
end

-- Z15
def SetO (prog : Program) (w : World) (σ : List Int) : OP := fun o => ∃ ep es t, o = stO es ep t ∧ ElemsOf (intKind prog w) es.toList ∧ (es.toList.map fun e => ik e.2).Perm σ ∧ es.size < scanBound ∧ t.fits es.size = true ∧ Asc t.place ∧ t.dummies = #[] ∧ (w.params.followText "set-order" = false → t.led = true)
theorem setO_si {prog : Program} {w : World} {h : Heap} {a : Addr} {σ : List Int} : (∃ o, h.get? a = some o ∧ SetO prog w σ o) ↔ SIx prog w h a σ :=
  ⟨fun ⟨_, e, ep, es, t, q, a1, a2, a3, a4, a5, a6, a7⟩ => ⟨ep, es, t, by subst q; exact e, a1, a2, a3, a4, a5, a6, a7⟩, fun ⟨ep, es, t, H⟩ => ⟨_, H.ob, ep, es, t, rfl, H.el, H.pm, H.sz, H.ft, H.asc, H.nod, H.led⟩⟩
theorem ints_ik : ∀ {vs : List Value}, (∀ v ∈ vs, ∃ n t, v = .int n t) → IntsAre vs (vs.map ik)
  | [], _ => .nil
  | v :: vs, h => by
    obtain ⟨n, t, rfl⟩ := h v (.head _)
    exact .cons n t (ints_ik fun v hv => h v (.tail _ hv))
section
variable {prog : Program} {w : World} {A : Around} {K : Frag} {s₀ s : Shared} {X : List Addr} {F : Fz} {N : Led} {Q : Value → Shared → Prop} {E : Value → Shared → Prop}
theorem At.later (S : At K s₀ X F N s) {s' : Shared} (hk : ∀ b o, s.heap.get? b = some o → s'.heap.get? b = some o) (hg : s'.gens = s.gens) (ho : s'.os = s.os) (hsz : s.heap.objs.size ≤ s'.heap.objs.size) : At K s₀ X F N s' :=
  ⟨S.top, ⟨hg.trans S.rest.1, ho.trans S.rest.2.1, ho.trans S.rest.2.1⟩, Nat.le_trans S.size hsz, fun b o e n => hk b o (S.ext b o e n), fun b o e => hk b o (S.fz b o e), fun p hp => let ⟨⟨o, e, q⟩, r⟩ := S.news p hp; ⟨⟨o, hk _ _ e, q⟩, r⟩, S.nodup⟩
theorem mkSet {l : Addr} {vs : List Value} {ns : List Int} (hh : A.handled = none) (S : At K s₀ X F N s) (hl : Here F N l (ListO vs)) (hi : IntsAre vs ns) (hb : vs.length + 1 < scanBound)
    (h : ∀ a s', s₀.heap.objs.size ≤ a → At K s₀ X F ((a, SetO prog w (firstMet (fun i => ns.getD i 0) vs.length)) :: N) s' → Q (.ref a) s') : wpAny (model prog w) A (call (.type "set") [.ref l]) Q E s := by
  refine callSet hh (S.isList hl) (by simpa using hi) (by simpa using hb) fun h' tk hS hk => ?_
  rw [List.size_toArray] at hS
  have hlt : s.heap.objs.size < h'.objs.size := let ⟨_, _, _, H⟩ := hS; Heap.lt_size H.ob
  have S1 : At K s₀ X F N { s with heap := h', toks := tk } := S.grow (Nat.le_of_lt hlt) fun b o e => hk b o (Heap.lt_size e) e
  exact h _ _ S.size (S1.more (setO_si.mpr hS) (S.fresh (Nat.le_refl _)) (S.off (Nat.le_refl _)) (.inl S.size))
theorem sortedSet {D : Addr} {σ : List Int} (hh : A.handled = none) (S : At K s₀ X F N s) (hd : Here F N D (SetO prog w σ)) (h64 : σ.length < 64)
    (h : ∀ a s' out ns', s₀.heap.objs.size ≤ a → IntsAre out ns' → ns'.Perm σ → ns'.Pairwise (· ≤ ·) → At K s₀ X F ((a, ListO out) :: N) s' → Q (.ref a) s') : wpAny (model prog w) A (call (.builtin "sorted") [.ref D]) Q E s := by
  obtain ⟨ep, es, t, H⟩ := setO_si.mp (S.here hd)
  refine Calls.call_function_entry kind_sorted plain_sorted entry_sorted (args_sorted1 _) ?_
  unfold Builtin.«sorted»
  refine wpAny_bind (m := checkCount "sorted" 1 1 _) (wpAny_pure ?_)
  refine wpAny_bind (collect_set (by simp [hh]) H fun s' vs hk hg ho hsz hp => ?_)
  have S1 := S.later hk hg ho hsz
  have hI : IntsAre vs (vs.map ik) := ints_ik fun v hv => by
    obtain ⟨e, he, rfl⟩ := List.mem_map.mp (hp.mem_iff.mp hv)
    obtain ⟨⟨k, hk, _⟩, _⟩ := H.el e he
    obtain ⟨t, ht⟩ := Value.isInt_shape hk
    exact ⟨k, t, ht⟩
  have hP : (vs.map ik).Perm σ := (hp.map ik).trans (by rw [List.map_map]; exact H.pm)
  have hl : vs.length = σ.length := by have := hP.length_eq; rwa [List.length_map] at this
  refine wpAny_bind (mkList S1 (small_sizeLine (by omega)) fun L s3 hD S3 => ?_)
  obtain ⟨o1, ea, n1, rfl⟩ := S3.get (.head _)
  have hL : L < s3.heap.objs.size := Heap.lt_size ea
  refine wpAny_bind (wpAny_holding (wpAny_call_entry slot_list_sort ⟨_, ea, rfl⟩ entry_list_sort ?body (args_list_sort _)))
  case body =>
    refine list_sort_tree ea hI (by omega) fun out ns' hI' hp' hs' => ⟨_, rfl, ?_⟩
    refine wpAny_pure ⟨_, rfl, h L _ out.toList ns' hD hI' (hp'.trans hP) hs' ?_⟩
    obtain ⟨e, he⟩ := sortedHeap_at (out := out) ea
    refine S3.setExt (i := 0) (t := s3.toks) (P' := ListO out.toList) rfl ?_ (fun b o hb hg => (sortedHeap_old hb (Heap.lt_size hg)).trans hg) ⟨_, he, e, by rw [Array.toArray_toList]⟩
    unfold sortedHeap
    rw [Heap.size_update, size_push', size_push', Heap.size_update]
    omega
end
/-- what a set of ints keeps -/
theorem dedup_nodup {σ : List Int} {k : Int} (h : σ.Nodup) : (step_dedup σ k).Nodup := by
  unfold step_dedup
  split
  · exact h
  · rename_i c
    rw [List.nodup_append]
    refine ⟨h, by simp, fun a ha b hb e => ?_⟩
    rw [List.mem_singleton] at hb
    subst hb; subst e
    exact c (List.any_eq_true.mpr ⟨a, ha, beq_self_eq_true _⟩)
theorem firstMet_nodup (val : Nat → Int) : ∀ i, (firstMet val i).Nodup
  | 0 => List.nodup_nil
  | i + 1 => by rw [firstMet_succ]; exact dedup_nodup (firstMet_nodup val i)
theorem firstMet_mem (val : Nat → Int) (i : Nat) (k : Int) : k ∈ firstMet val i ↔ ∃ j, j < i ∧ val j = k := by
  have h := firstMet_any val i k
  constructor
  · intro hk
    rw [show ((firstMet val i).any fun x => x == k) = true from List.any_eq_true.mpr ⟨k, hk, beq_self_eq_true _⟩] at h
    obtain ⟨x, hx, e⟩ := List.any_eq_true.mp h.symm
    obtain ⟨j, hj, rfl⟩ := List.mem_map.mp hx
    exact ⟨j, List.mem_range.mp hj, eq_of_beq e⟩
  · rintro ⟨j, hj, rfl⟩
    rw [show ((List.map val (List.range i)).any fun x => x == val j) = true from List.any_eq_true.mpr ⟨val j, List.mem_map.mpr ⟨j, List.mem_range.mpr hj, rfl⟩, beq_self_eq_true _⟩] at h
    obtain ⟨x, hx, e⟩ := List.any_eq_true.mp h
    rw [← eq_of_beq e]; exact hx
/-- the sorted numbers of a set of small ints -/
theorem sorted_nats {ns' σ : List Int} (hp : ns'.Perm σ) (hn : σ.Nodup) (hs : ns'.Pairwise (· ≤ ·)) (h0 : ∀ k ∈ σ, 0 ≤ k) : ns' = (ns'.map Int.toNat).map (fun n : Nat => (n : Int)) ∧ (ns'.map Int.toNat).Pairwise (· < ·) := by
  have h1 : ns'.Pairwise (· < ·) := by
    have hn' : ns'.Nodup := hp.nodup_iff.mpr hn
    exact (hs.and hn').imp fun ⟨a, b⟩ => by omega
  have h2 : ∀ k ∈ ns', 0 ≤ k := fun k hk => h0 k (hp.mem_iff.mp hk)
  constructor
  · rw [List.map_map]
    conv => lhs; rw [← List.map_id ns']
    exact List.map_congr_left fun k hk => by have := h2 k hk; show k = ((k.toNat : Nat) : Int); omega
  · rw [List.pairwise_map]
    exact h1.imp_of_mem fun {a b} ha hb hab => by have := h2 a ha; have := h2 b hb; omega

-- D1
theorem all_t (l : List Nat) : (l.all fun _ => true) = true := List.all_eq_true.mpr fun _ _ => rfl
theorem fm_congr {α β : Type} {f g : α → Option β} : ∀ (l : List α), (∀ x ∈ l, f x = g x) → l.filterMap f = l.filterMap g
  | [], _ => rfl
  | x :: l, h => by rw [List.filterMap_cons, List.filterMap_cons, h x (.head _), fm_congr l fun y hy => h y (.tail _ hy)]
section
variable {prog : Program} {w : World} {A : Around} {K : Frag} {s₀ s : Shared} {X : List Addr} {F : Fz} {N : Led} {Q : Value → Shared → Prop} {E : Value → Shared → Prop} {b : Bool}
theorem pairEq {n : Nat} {v v' : Value} {h : Shared} (hf : ∀ b o, F b = some o → h.heap.get? b = some o) (hp : PairF F b n v) (hq : PairF F b n v') (hu : A.units < cLine) : SeqAt.EqAt A h v v' true := by
  obtain ⟨a, k, t, rfl, ⟨_, e1, n1, rfl⟩, hk⟩ := hp
  obtain ⟨a', k', t', rfl, ⟨_, e2, n2, rfl⟩, hk'⟩ := hq
  by_cases c : a = a'
  · subst c; exact SeqAt.EqAt.same _
  · refine SeqAt.EqAt.of_refs c ?_
    have := SeqAt.RcAt.tuples (A := A) (s := h) (e := fun _ => true) (l := a) (b := a') ⟨_, hf _ _ e1, rfl, n1, rfl⟩ ⟨_, hf _ _ e2, rfl, n2, rfl⟩ hu (fun j h1 h2 => ?_)
    · simpa [List.range, List.range.loop] using this
    · rcases j with _ | _ | j
      · have := eqAtK (A := A.in1) (s := h) hk hk'
        simpa using this
      · have := eqAt_int (A := A.in1) (s := h) (n : Int) n t t'
        rwa [beq_self_eq_true] at this
      · exact absurd h1 (by simp)
theorem Rm.pu {k : Nat} (r : Rm A k) : A.units + 1 < cLine := by have := r.u; lia
theorem pairsNe {l l' : Addr} {ns : List Nat} {xs ys : List Value} (S : At K s₀ X F N s) (hl : Here F N l (ListO xs)) (hl' : Here F N l' (ListO ys)) (hx : Al (PairF F b) ns xs) (hy : Al (PairF F b) ns ys) (hu : A.units + 1 < cLine) (h : Q (.bool false) s) :
    wpAny (model prog w) A (compareOp .NotEq (.ref l) (.ref l')) Q E s := by
  show wpAny _ A (richCompare .NotEq _ _) Q E s
  have e1 := hx.length
  have e2 := hy.length
  refine SeqAt.RcNeAt.lists (e := fun _ => true) (S.isList hl) (S.isList hl') (by simp; lia) (by lia) (fun j h1 h2 => ?_) prog w E Q (by rw [all_t]; exact h)
  have h1' : j < xs.length := by simpa using h1
  obtain ⟨n, hn, p1⟩ := hx.get' (List.getElem?_eq_getElem h1')
  obtain ⟨y, ey, p2⟩ := hy.get hn
  have h2' : j < ys.length := by simpa using h2
  rw [List.getElem?_eq_getElem h2'] at ey
  cases ey
  simpa using pairEq (A := A.in1) S.fz p1 p2 hu
theorem pairsEq {l l' : Addr} {ns : List Nat} {xs ys : List Value} (S : At K s₀ X F N s) (hl : Here F N l (ListO xs)) (hl' : Here F N l' (ListO ys)) (hx : Al (PairF F b) ns xs) (hy : Al (PairF F b) ns ys) (hu : A.units + 1 < cLine) (h : Q (.bool true) s) :
    wpAny (model prog w) A (compareOp .Eq (.ref l) (.ref l')) Q E s := by
  show wpAny _ A (richCompare .Eq _ _) Q E s
  have e1 := hx.length
  have e2 := hy.length
  refine SeqAt.RcAt.lists (e := fun _ => true) (S.isList hl) (S.isList hl') (by simp; lia) (by lia) (fun j h1 h2 => ?_) prog w E Q (by rw [all_t]; exact h)
  have h1' : j < xs.length := by simpa using h1
  obtain ⟨n, hn, p1⟩ := hx.get' (List.getElem?_eq_getElem h1')
  obtain ⟨y, ey, p2⟩ := hy.get hn
  have h2' : j < ys.length := by simpa using h2
  rw [List.getElem?_eq_getElem h2'] at ey
  cases ey
  simpa using pairEq (A := A.in1) S.fz p1 p2 hu
def Fz.del (F : Fz) (a : Addr) : Fz := fun b => if b = a then none else F b
theorem Fz.le_del {F₀ F : Fz} {a : Addr} (h : F₀ a = none) (l : F₀.le F) : F₀.le (F.del a) := fun b o e => by
  unfold Fz.del
  by_cases c : b = a
  · rw [c, h] at e; cases e
  · rw [if_neg c]; exact l b o e
theorem Fz.del_le (F : Fz) (a : Addr) : (F.del a).le F := fun b o e => by
  unfold Fz.del at e
  split at e
  · cases e
  · exact e
/-- a frozen object is thawed -/
theorem At.thaw {F₀ : Fz} {a : Addr} {P : OP} (S : At K s₀ X F N s) (h0 : ∃ h₀, Gl K h₀ ∧ ∀ b o, h₀.get? b = some o → F₀ b = some o) (hT : F₀ a = none) (l : F₀.le F) (h : Has F a P) (ha : s₀.heap.objs.size ≤ a) : At K s₀ X (F.del a) ((a, P) :: N) s := by
  obtain ⟨o, e, p⟩ := h
  have hd := Fz.del_le F a
  have hN : a ∉ N.map (·.1) := fun hm => by
    obtain ⟨q, hq, rfl⟩ := List.mem_map.mp hm
    rw [(S.news q hq).2.1] at e; cases e
  refine ⟨let ⟨h₀, g, k⟩ := h0; ⟨h₀, g, fun b o' e' => Fz.le_del hT l b o' (k b o' e')⟩, S.rest, S.size, S.ext, fun b o' e' => S.fz b o' (hd b o' e'), fun q hq => ?_, by rw [List.map_cons, List.nodup_cons]; exact ⟨hN, S.nodup⟩⟩
  rcases List.mem_cons.mp hq with rfl | hq
  · exact ⟨⟨o, S.fz _ _ e, p⟩, by unfold Fz.del; rw [if_pos rfl], .inl ha⟩
  · obtain ⟨x, y, z⟩ := S.news q hq
    refine ⟨x, ?_, z⟩
    unfold Fz.del
    split
    · rfl
    · exact y
/-- a list of pairs lives on without the thawed object -/
theorem PairF.del {a : Addr} {n : Nat} {v : Value} {P : OP} (ha : Has F a P) (hP : ∀ o, P o → o.cls = .type "dict") (h : PairF F b n v) : PairF (F.del a) b n v := by
  obtain ⟨c, k, t, e, ⟨o, hc, ⟨m, rfl⟩⟩, hk⟩ := h
  refine ⟨c, k, t, e, ⟨_, ?_, m, rfl⟩, hk⟩
  unfold Fz.del
  rw [if_neg, hc]
  intro q
  subst q
  obtain ⟨o', e', p'⟩ := ha
  rw [hc] at e'
  cases e'
  have this : Value.type "tuple" = Value.type "dict" := hP _ p'
  exact absurd this (by decide)
end
theorem strPairs_inj {prog : Program} {w : World} : ∀ {es : List DictEntry} {kvs kvs' : List (Str × Value)}, Pairs (strKind prog w) es kvs → Pairs (strKind prog w) es kvs' → kvs = kvs' := by
  intro es kvs kvs' h
  induction h generalizing kvs' with
  | nil => intro h'; cases h'; rfl
  | cons a e _ ih =>
    intro h'
    cases h' with
    | cons a' e' r =>
      rw [ih r]
      congr 1
      obtain ⟨t, q⟩ := isStr_val a
      obtain ⟨t', q'⟩ := isStr_val a'
      rw [q] at q'
      injection q' with h1 h2
      exact Prod.ext h1 (e.symm.trans e')
theorem HasD.inj {prog : Program} {w : World} {F : Fz} {d : Addr} {kvs kvs' : List (Str × Value)} (h : HasD prog w F d kvs) (h' : HasD prog w F d kvs') : kvs = kvs' := by
  obtain ⟨o, e, es, ep, x, y, _, p, _⟩ := h.h
  obtain ⟨o', e', es', ep', x', y', _, p', _⟩ := h'.h
  rw [e] at e'
  cases e'
  rw [y] at y'
  cases y'
  exact strPairs_inj p p'
theorem RowF.inj {F : Fz} {b : Bool} {ns ns' : List Nat} {xs : List Value} (h : RowF F b ns xs) (h' : RowF F b ns' xs) : ns = ns' := by
  refine List.ext_getElem? fun i => ?_
  have e : ns.length = ns'.length := by have := h.1; have := h'.1; lia
  by_cases c : i < ns.length
  · obtain ⟨v, k, t, _, a, _⟩ := h.2 i _ (List.getElem?_eq_getElem c)
    obtain ⟨v', k', t', _, a', _⟩ := h'.2 i _ (List.getElem?_eq_getElem (by lia : i < ns'.length))
    rw [List.getElem?_eq_getElem c, List.getElem?_eq_getElem (by lia : i < ns'.length)]
    rw [a] at a'
    simp only [Option.some.injEq, Value.int.injEq] at a'
    congr 1
    lia
  · rw [List.getElem?_eq_none (by lia), List.getElem?_eq_none (by lia)]
structure DamS (prog : Program) (w : World) (F₀ F : Fz) (b : Bool) (dead : List Nat → Prop) (tb : List (Int × Value)) (k : Int) (x : Value) (ns : List Nat) (e d : Addr) (t0 : Tok) (kvs : List (Str × Value)) (e' d' : Addr) (t' : Tok) (kvs' : List (Str × Value)) (l' : Addr) (xs : List Value) : Prop where
  a1 : x = .ref e
  a2 : Has F₀ e (TupO [.int 0 t0, .ref d])
  a3 : HasD prog w F₀ d kvs
  a4 : valueAt kvs kS = none
  a5 : valueAt kvs (wordS b) = some (.ref l')
  a6 : Has F₀ l' (ListO xs)
  a7 : RowF F₀ b ns xs
  a8 : dead ns
  a9 : valueAt tb k = some (.ref e')
  b1 : Has F e' (TupO [.int 0 t', .ref d'])
  b2 : HasD prog w F d' kvs'
  b3 : valueAt kvs' kS = none
  b4 : valueAt kvs' (Str.ofString "Limits") = valueAt kvs (Str.ofString "Limits")
/-- the table tb comes from tb0 by leaves taken off -/
def Dam (prog : Program) (w : World) (F₀ F : Fz) (b : Bool) (dead : List Nat → Prop) (tb0 tb : List (Int × Value)) : Prop :=
  ∀ k x, valueAt tb0 k = some x → valueAt tb k = some x ∨ ∃ ns e d t0 kvs e' d' t' kvs' l' xs, DamS prog w F₀ F b dead tb k x ns e d t0 kvs e' d' t' kvs' l' xs
theorem Dam.weak {prog : Program} {w : World} {F₀ F : Fz} {b : Bool} {dead dead' : List Nat → Prop} {tb0 tb : List (Int × Value)} (h : Dam prog w F₀ F b dead tb0 tb) (hw : ∀ ns, dead ns → dead' ns) : Dam prog w F₀ F b dead' tb0 tb := fun k x e => by
  rcases h k x e with q | ⟨ns, e, d, t0, kvs, e', d', t', kvs', l', xs, z⟩
  · exact .inl q
  · exact .inr ⟨ns, e, d, t0, kvs, e', d', t', kvs', l', xs, ⟨z.a1, z.a2, z.a3, z.a4, z.a5, z.a6, z.a7, hw _ z.a8, z.a9, z.b1, z.b2, z.b3, z.b4⟩⟩
theorem Dam.mono {prog : Program} {w : World} {F₀ F F' : Fz} {b : Bool} {dead : List Nat → Prop} {tb0 tb : List (Int × Value)} (h : Dam prog w F₀ F b dead tb0 tb) (l : F.le F') : Dam prog w F₀ F' b dead tb0 tb := fun k x e => by
  rcases h k x e with q | ⟨ns, e, d, t0, kvs, e', d', t', kvs', l', xs, z⟩
  · exact .inl q
  · exact .inr ⟨ns, e, d, t0, kvs, e', d', t', kvs', l', xs, ⟨z.a1, z.a2, z.a3, z.a4, z.a5, z.a6, z.a7, z.a8, z.a9, z.b1.mono l, z.b2.mono l, z.b3, z.b4⟩⟩
theorem hasTup_inj {F : Fz} {a : Addr} {xs ys : List Value} (h : Has F a (TupO xs)) (h' : Has F a (TupO ys)) : xs = ys := by
  obtain ⟨o, e, n, rfl⟩ := h
  obtain ⟨o', e', n', q⟩ := h'
  rw [e] at e'
  cases e'
  simp only [Obj.mk.injEq, Data.seq.injEq] at q
  simpa using q.2.2.1.1
theorem hasList_inj {F : Fz} {a : Addr} {xs ys : List Value} (h : Has F a (ListO xs)) (h' : Has F a (ListO ys)) : xs = ys := by
  obtain ⟨o, e, n, rfl⟩ := h
  obtain ⟨o', e', n', q⟩ := h'
  rw [e] at e'
  cases e'
  simp only [Obj.mk.injEq, Data.seq.injEq] at q
  simpa using q.2.2.1.1
theorem Body.dam {prog : Program} {w : World} {F₀ F : Fz} {b : Bool} {dead : List Nat → Prop} {tb0 tb : List (Int × Value)} (l : F₀.le F) (hd : Dam prog w F₀ F b dead tb0 tb) : ∀ {h : Nat} {m : Int} {t : Tr h} {kvs : List (Str × Value)}, Body prog w F₀ tb0 b (fun _ => False) h m t kvs → Body prog w F tb b dead h m t kvs
  | 0, _, _, _, hb => by
    obtain ⟨a, q⟩ := hb
    rcases q with q | ⟨l', xs, x, y, z⟩
    · exact q.elim
    · exact ⟨a, .inr ⟨l', xs, x, y.mono l, z.mono l⟩⟩
  | h + 1, _, _, _, hb => by
    obtain ⟨l', vs, x, y, z⟩ := hb
    refine ⟨l', vs, x, y.mono l, z.mono fun t v q => ?_⟩
    obtain ⟨k, e, d, t0, kvs', r1, r2, a1, a2, a3, a4, a5, a6, a7, a8, a9, a10⟩ := q
    rcases hd k _ a4 with q | ⟨ns, e1, d1, t1, kvs1, e', d', t', kvs2, l2, xs, b1, b2, b3, b4, b5, b6, b7, b8, b9, c1, c2, c3, c4⟩
    · exact ⟨k, e, d, t0, kvs', r1, r2, a1, a2, a3.mono l, q, a5.mono l, a6.mono l, a7, a8, a9.mono l, Body.dam l hd a10⟩
    · cases b1
      have ed := hasTup_inj a5 b2
      simp only [List.cons.injEq, Value.ref.injEq, and_true] at ed
      obtain ⟨_, rfl⟩ := ed
      obtain rfl := HasD.inj a6 b3
      refine ⟨k, e', d', t', kvs2, r1, r2, a1, a2, a3.mono l, b9, c1, c2, a7, a8, (a9.mono l).same c4, ?_⟩
      cases h with
      | zero =>
        obtain ⟨_, q⟩ := a10
        rcases q with q | ⟨l3, xs3, x3, y3, z3⟩
        · exact q.elim
        · rw [b5] at x3
          cases x3
          obtain rfl := hasList_inj b6 y3
          obtain rfl := RowF.inj b7 z3
          exact ⟨c3, .inl b8⟩
      | succ h =>
        obtain ⟨l3, vs3, x3, _⟩ := a10
        rw [b4] at x3; cases x3
/-- every second item -/
theorem pick2_get (xs : List Value) (n : Nat) (h : xs.length = 2 * n) : (slicePick xs.toArray none none (some 2)).toList.length = n ∧ ∀ i, i < n → (slicePick xs.toArray none none (some 2)).toList[i]? = xs[2 * i]? := by
  have e : (slicePick xs.toArray none none (some 2)).toList = (List.range n).filterMap fun i => xs[2 * i]? := by
    unfold slicePick
    have hb : sliceBounds none none (some 2) xs.toArray.size = (0, (xs.length : Int), 2) := by simp [sliceBounds]
    rw [hb]
    show ((sliceRange 0 (xs.length : Int) 2).filterMap (xs.toArray[·]?)).toArray.toList = _
    have hr : sliceRange 0 (xs.length : Int) 2 = (List.range n).map fun k => 2 * k := by
      unfold sliceRange
      rw [if_pos (by decide)]
      have : (if (0 : Int) < (xs.length : Int) then ((xs.length : Int) - 0 + 2 - 1) / 2 else 0).toNat = n := by split <;> lia
      simp only [this]
      exact List.map_congr_left fun k _ => by lia
    rw [hr, List.filterMap_map, List.toList_toArray]
    exact fm_congr _ fun i _ => by simp
  have e2 : ∀ m, m ≤ n → ((List.range m).filterMap fun i => xs[2 * i]?) = (List.range m).map fun i => xs[2 * i]?.getD .none := by
    intro m hm
    rw [← List.filterMap_eq_map]
    refine fm_congr _ fun i hi => ?_
    have : 2 * i < xs.length := by have := List.mem_range.mp hi; lia
    show xs[2 * i]? = some (xs[2 * i]?.getD .none)
    rw [List.getElem?_eq_getElem this]; rfl
  rw [e, e2 n (Nat.le_refl _)]
  refine ⟨by simp, fun i hi => ?_⟩
  have : 2 * i < xs.length := by lia
  rw [List.getElem?_map, List.getElem?_range hi]
  show some (xs[2 * i]?.getD .none) = _
  rw [List.getElem?_eq_getElem this]; rfl

-- D2
def lawFn := (⟨_, _, _, _, _, _, _, _, _, _, rfl⟩ : Σ' (body : List PySem.Stmt) (scope : Scope) (a1 : Str) (a2 : Arguments) (a3 : List PySem.Expr) (a4 : Option PySem.Expr) (a5 : List TypeParam) (a6 : Option Scope) (a7 : Str) (a8 : Pos), PySem.Challenge.pw_og0179_01.main.body.getLast? = some (.FunctionDef a1 a2 body a3 a4 a5 scope a6 a7 a8))
abbrev lawBody : List PySem.Stmt := lawFn.1
abbrev lawScope : Scope := lawFn.2.1
abbrev lawEnv (L fa : Addr) (cd : Value) : Env := envX (Str.ofString "law") lawScope L fa cd (cellsFrom (L + 1) lawScope.names [])
theorem At.down {K : Frag} {s₀ s : Shared} {X : List Addr} {F : Fz} {N : Led} {p : Addr × OP} (S : At K s₀ X F (p :: N) s) (n : Nat) : At K s₀ X F (N.take n ++ p :: N.drop n) s :=
  S.perm (List.perm_middle.trans (by rw [List.take_append_drop]))
def ListI (xs : List Value) : OP := fun o => o.cls = .type "list" ∧ ∃ n, o.data = .seq xs.toArray n
section
variable {prog : Program} {w : World} {A : Around} {P : Params} {s₀ s : Shared} {X : List Addr} {F : Fz} {N : Led} {E : Value → Shared → Prop} {K : Frag}
theorem At.isListI (S : At K s₀ X F N s) {l : Addr} {xs : List Value} (h : Has F l (ListI xs)) : s.heap.IsList l xs.toArray := let ⟨o, e, c, n, d⟩ := h; ⟨o, S.fz _ _ e, c, n, d⟩
theorem subSlG {value slice : PySem.Expr} {l sl : Addr} {xs : List Value} {vl vu vs : Value} {lo hi st : Option Int} {ops : List Value} {Q : Value → Shared → Prop} (S : At K s₀ X F N s) (hl : s.heap.IsList l xs.toArray) (hsl : Here F N sl (SliceO vl vu vs))
    (pl : IsPart vl lo) (pu : IsPart vu hi) (ps : IsPart vs st) (h0 : st ≠ some 0) (hz : xs.length ≤ 100000)
    (h : ∀ a s', s₀.heap.objs.size ≤ a → At K s₀ X F ((a, ListO (slicePick xs.toArray lo hi st).toList) :: N) s' → Q (.ref a) s')
    (hs : subscripted slice false (.ref l) (.ref sl) = operate ops (getItem (.ref l) (.ref sl))) (ht : ∀ r, letTemporaryGo value (.ref l) r = pure ()) : wpAny (model prog w) A (subscriptTail value slice (.ref l) (.ref sl)) Q E s := by
  obtain ⟨_, e, rfl⟩ := S.here hsl
  refine subscriptTail_ops hl.typeIs list_getitem_lookup (wpAny_getItem_list_slice hl ⟨_, e, rfl, rfl⟩ pl pu ps h0 ?_ (by rw [List.size_toArray]; exact small_sizeLine hz)) hs ht
  exact h _ _ S.size (S.push (t := s.toks) ⟨0, by rw [Array.toArray_toList]⟩ rfl)
theorem absI {i : Int} {t : Tok} {Q : Value → Shared → Prop} (S : At K s₀ X F N s) (h : ∀ t s', At K s₀ X F N s' → Q (.int (if i < 0 then -i else i) t) s') : wpAny (model prog w) A (call (.builtin "abs") [.int i t]) Q E s :=
  PyProof.Rows.call_abs_int fun u tk => h u _ (S.toks tk)
theorem powI {t u : Tok} {Q : Value → Shared → Prop} (S : At K s₀ X F N s) (h : ∀ t s', At K s₀ X F N s' → Q (.int (10 ^ 80) t) s') : wpAny (model prog w) A (binaryOp .Pow (.int 10 t) (.int 80 u)) Q E s :=
  AutoIntOps.pow_4 (by decide) (by decide) (by decide) (by decide) (by decide) (h _ _ (S.toks _))
set_option maxHeartbeats 2000000 in
theorem law0 {L fa l : Addr} {cd : Value} {vs : List Value} {ns : List Int} {m : Str → Option Value} {Q : Flow → Shared → Prop} (hm : Rm A 70) (hL : s₀.heap.objs.size ≤ L) (hsc : m (Str.ofString "script") = some (.ref l)) (hl : Has F l (ListI vs)) (hi : IntsAre vs ns) (hz : vs.length ≤ 63)
    (S : At (hd.heap_1 P) s₀ X F ((L, NsO m) :: (L + 1 + 1 + 1 + 1 + 1, CellO none) :: (L + 1 + 1 + 1 + 1, CellO none) :: (L + 1 + 1 + 1, CellO none) :: (L + 1 + 1, CellO none) :: (L + 1, CellO none) :: N) s)
    (h : ∀ pl xs s', PoolOK xs → At (hd.heap_1 P) s₀ X F ((L, NsO m) :: (L + 1 + 1 + 1 + 1 + 1, CellO none) :: (L + 1 + 1 + 1 + 1, CellO none) :: (L + 1 + 1 + 1, CellO none) :: (L + 1 + 1, CellO none) :: (L + 1, CellO (some (.ref pl))) :: (pl, ListO xs) :: N) s' →
      wpAny (model prog w) A (execs (lawBody.drop 1) (lawEnv L fa cd)) Q E s') : wpAny (model prog w) A (execs lawBody (lawEnv L fa cd)) Q E s := by
  show wpAny _ _ (execs (_ :: _) _) _ _ _
  (repeat cell_call)
  refine compE0 (K := hd.heap_1 P) (X := X) (s₀ := s₀) (by exact rfl) (by decide) rfl (by decide) (by exact rfl) ?_
  (repeat cell_call)
  refine mkSlice (K := hd.heap_1 P) (X := X) (s₀ := s₀) ?_
  refine evalPart_none_step ?_
  refine evalPart_some_step ?_
  (repeat cell_call)
  refine evalPart_none_step ?_
  refine ⟨_, _, by assumption, fun sl s1 hsl S1 => ?_⟩
  refine subSlG S1 (S1.isListI hl) (.inl (.head _)) .none (.int _ _) .none (by simp) (by omega) (fun q s2 hq S2 => ?_) rfl (by intro _; rfl)
  rw [show slicePick vs.toArray none (some 24) none = (vs.take 24).toArray from by simpa using slicePick_upto' vs.toArray 24] at S2
  have S2 := S2.eraseIdx 1
  refine iterL S2 (.inl (.head _)) fun it s3 hit S3 => ?_
  have hi24 : IntsAre (vs.take 24) (ns.take 24) := hi.take 24
  refine ⟨it, _, (vs.take 24).length, _, _, F, _, fun i F' ys => F' = F ∧ PoolOK ys ∧ ys.length = i, rfl, srcL (xs := vs.take 24) hm.h hit, small_sizeLine (by rw [List.length_take]; omega), S3, ⟨rfl, ⟨by simp, fun _ h => nomatch h⟩, rfl⟩, fun i F' ys N' hI hN => .inl (hN _ (.head _)), ?_, ?_⟩
  · rintro i F' ys v mc C acc s4 hi' hv ⟨rfl, hys, hlen⟩ S4
    obtain ⟨k, t, rfl, _⟩ := hi24.at i v hv
    show wpAny _ _ (pure true) _ _ _
    refine wpAny_pure ?_
    (repeat cell_call)
    refine absI (by assumption) ?_
    intro _ _ _
    (repeat cell_call)
    refine powI (by assumption) ?_
    intro _ _ _
    refine modI (by assumption) (by decide) ?_
    intro t9 _ _
    refine ⟨F', _, ⟨rfl, ⟨?_, ?_⟩, ?_⟩, by assumption⟩
    · have := List.length_take_le 24 vs; rw [List.length_append]; simp; omega
    · intro u hu
      rcases List.mem_append.mp hu with hu | hu
      · exact hys.2 u hu
      · rw [List.mem_singleton] at hu; subst hu
        exact ⟨_, _, rfl, Int.emod_nonneg _ (by decide)⟩
    · simp [hlen]
  · rintro F' ys acc s4 ⟨rfl, hys, _⟩ hlen hacc S4
    have S5 := (S4.eraseIdx 1).down 6
    (dsimp only [List.eraseIdx, List.take, List.drop, List.cons_append, List.nil_append, List.set] at S5)
    refine stC (i := 5) S5 rfl rfl (fun s5 S6 => ?_) rfl rfl
    (dsimp only [List.eraseIdx, List.take, List.drop, List.cons_append, List.nil_append, List.set] at S6)
    exact h acc ys s5 hys S6
end

-- D3
section
variable {prog : Program} {w : World} {A : Around} {P : Params} {s₀ s : Shared} {X : List Addr} {F : Fz} {N : Led} {E : Value → Shared → Prop} {K : Frag}
theorem names2 (t u : Tok) (k : Nat) (hk : k < 2) : ∃ b tw, ([Value.str (Str.ofString "Names") t, Value.str (Str.ofString "Nums") u] : List Value)[((k : Int)).toNat]? = some (.str (wordS b) tw) := by
  rw [Int.toNat_natCast]
  rcases Nat.lt_or_ge k 1 with c | c
  · obtain rfl : k = 0 := by lia
    exact ⟨false, _, rfl⟩
  · obtain rfl : k = 1 := by lia
    exact ⟨true, _, rfl⟩
set_option maxHeartbeats 2000000 in
theorem law1 {L fa pl : Addr} {cd : Value} {xs : List Value} {m : Str → Option Value} {Q : Flow → Shared → Prop} (hm : Rm A 70) (hL : s₀.heap.objs.size ≤ L) (hp : PoolOK xs)
    (S : At (hd.heap_1 P) s₀ X F ((L, NsO m) :: (L + 1 + 1 + 1 + 1 + 1, CellO none) :: (L + 1 + 1 + 1 + 1, CellO none) :: (L + 1 + 1 + 1, CellO none) :: (L + 1 + 1, CellO none) :: (L + 1, CellO (some (.ref pl))) :: (pl, ListO xs) :: N) s)
    (h : ∀ b tw (wi : Nat) tn xs m' s', 2 ≤ wi → wi ≤ 4 → PoolOK xs → m' (Str.ofString "width") = some (.int wi tn) → At (hd.heap_1 P) s₀ X F ((L, NsO m') :: (L + 1 + 1 + 1 + 1 + 1, CellO none) :: (L + 1 + 1 + 1 + 1, CellO none) :: (L + 1 + 1 + 1, CellO none) :: (L + 1 + 1, CellO (some (.str (wordS b) tw))) :: (L + 1, CellO (some (.ref pl))) :: (pl, ListO xs) :: N) s' →
      wpAny (model prog w) A (execs (lawBody.drop 2) (lawEnv L fa cd)) Q E s') : wpAny (model prog w) A (execs (lawBody.drop 1) (lawEnv L fa cd)) Q E s := by
  show wpAny _ _ (execs (_ :: _) _) _ _ _
  (repeat cell_call)
  refine Assign_Tuple ?_ rfl rfl
  (repeat cell_call)
  rename_i ta _ _ tb _ _
  refine mkTup (by assumption) (by (exact small_sizeLine (by simp))) fun tu s1 htu S1 => ?_
  (repeat cell_call)
  rename_i S9
  have S9 := S9.up 7 rfl
  (dsimp only [List.eraseIdx, List.take, List.drop, List.cons_append, List.nil_append, List.set] at S9)
  refine law_take_ (many := 2) S9 (hm.mono (by decide)) hp (by decide) (by decide) fun k1 t1 xs1 s2 hk1 hp1 S2 => ?_
  (repeat cell_call)
  obtain ⟨b, tw, hv⟩ := names2 ta tb k1 hk1
  refine subT (by assumption) (.inl (.tail _ (.head _))) (by lia) (by lia) hv ?_ rfl
  (repeat cell_call)
  refine law_take_ (many := 3) (by assumption) (hm.mono (by decide)) hp1 (by decide) (by decide) fun k2 t2 xs2 s3 hk2 hp2 S3 => ?_
  (repeat cell_call)
  refine addI (by assumption) ?_
  intro tn _ _
  (repeat cell_call)
  refine mkTup (by assumption) (by (exact small_sizeLine (by simp))) fun pr s4 hpr S4 => ?_
  have S4 := ((S4.eraseIdx 2).down 7)
  (dsimp only [List.eraseIdx, List.take, List.drop, List.cons_append, List.nil_append, List.set] at S4)
  have S4 := S4.down 6
  (dsimp only [List.eraseIdx, List.take, List.drop, List.cons_append, List.nil_append, List.set] at S4)
  refine unpackT hm.h S4 (.inl (by ((repeat (first | exact List.Mem.head _ | refine List.Mem.tail _ ?_))))) ⟨_, .head _, hL⟩ rfl rfl ?_
  intro s5 S5
  refine wpAny_assignInOrder_more ?_
  refine wpAny_assign_Name ?_
  refine stC (i := 4) S5 rfl rfl (fun s6 S6 => ?_) rfl rfl
  (dsimp only [List.eraseIdx, List.take, List.drop, List.cons_append, List.nil_append, List.set] at S6)
  ((refine wpAny_assignInOrder_more ?_; refine wpAny_assign_Name ?_; (refine' stL ?Sq465 ?_ ?aq465 ?bq465; (case Sq465 => assumption); (case aq465 => exact rfl); (case bq465 => exact rfl); intro _ _)))
  ((refine wpAny_assignInOrder_none ?_))
  rename_i S7
  have S7 := S7.eraseIdx 7
  (dsimp only [List.eraseIdx, List.take, List.drop, List.cons_append, List.nil_append, List.set] at S7)
  refine h b tw (2 + k2) tn xs2 _ _ (by lia) (by lia) hp2 ?_ S7
  show some _ = _
  rw [show ((2 + k2 : Nat) : Int) = 2 + (k2 : Int) from by lia]
set_option maxHeartbeats 2000000 in
theorem law2 {L fa pl : Addr} {cd : Value} {xs : List Value} {m : Str → Option Value} {b : Bool} {tw : Tok} {Q : Flow → Shared → Prop} (hm : Rm A 70) (hL : s₀.heap.objs.size ≤ L) (hp : PoolOK xs)
    (S : At (hd.heap_1 P) s₀ X F ((L, NsO m) :: (L + 1 + 1 + 1 + 1 + 1, CellO none) :: (L + 1 + 1 + 1 + 1, CellO none) :: (L + 1 + 1 + 1, CellO none) :: (L + 1 + 1, CellO (some (.str (wordS b) tw))) :: (L + 1, CellO (some (.ref pl))) :: (pl, ListO xs) :: N) s)
    (h : ∀ nl (ns : List Nat) vs xs m' s', Srt ns → ns ≠ [] → ns.length ≤ 13 → (∀ n ∈ ns, n < 20) → IntsAre vs (ns.map fun n : Nat => (n : Int)) → PoolOK xs → m' (Str.ofString "width") = m (Str.ofString "width") → m' (Str.ofString "numbers") = some (.ref nl) → At (hd.heap_1 P) s₀ X F ((L, NsO m') :: (L + 1 + 1 + 1 + 1 + 1, CellO none) :: (L + 1 + 1 + 1 + 1, CellO none) :: (L + 1 + 1 + 1, CellO none) :: (L + 1 + 1, CellO (some (.str (wordS b) tw))) :: (L + 1, CellO (some (.ref pl))) :: (pl, ListO xs) :: (nl, ListO vs) :: N) s' →
      wpAny (model prog w) A (execs (lawBody.drop 3) (lawEnv L fa cd)) Q E s') : wpAny (model prog w) A (execs (lawBody.drop 2) (lawEnv L fa cd)) Q E s := by
  show wpAny _ _ (execs (_ :: _) _) _ _ _
  (repeat cell_call)
  rename_i t4 _ _
  refine mkList (by assumption) (by (exact small_sizeLine (by simp))) fun l4 s1 hl4 S1 => ?_
  refine compE (K := hd.heap_1 P) (X := X) (s₀ := s₀) (by exact rfl) (by decide) rfl (by decide) (by exact rfl) ?_
  (repeat cell_call)
  rename_i S9
  have S9 := S9.up 7 rfl
  (dsimp only [List.eraseIdx, List.take, List.drop, List.cons_append, List.nil_append, List.set] at S9)
  refine law_take_ (many := 13) S9 (hm.mono (by decide)) hp (by decide) (by decide) fun k1 t1 xs1 s2 hk1 hp1 S2 => ?_
  (repeat cell_call)
  refine range1 (by assumption) fun r s3 S3 => ?_
  refine iterRange (n := k1) S3 (.inl (.head _)) (by lia) (by decide) (by decide) (by lia) (by lia) fun it s4 hit S4 => ?_
  have S4 := S4.eraseIdx 1
  (dsimp only [List.eraseIdx, List.take, List.drop, List.cons_append, List.nil_append, List.set] at S4)
  refine ⟨it, _, k1, _, _, F, _, fun i F' ys N' => F' = F ∧ (∃ xs', PoolOK xs' ∧ N' = (pl, ListO xs') :: (l4, ListO [Value.int 4 t4]) :: (L, NsO m) :: (L + 1 + 1 + 1 + 1 + 1, CellO none) :: (L + 1 + 1 + 1 + 1, CellO none) :: (L + 1 + 1 + 1, CellO none) :: (L + 1 + 1, CellO (some (.str (wordS b) tw))) :: (L + 1, CellO (some (.ref pl))) :: N) ∧
    ∃ ks : List Nat, IntsAre ys (ks.map fun n : Nat => (n : Int)) ∧ (∀ k ∈ ks, k < 20) ∧ ks.length = i, rfl, srcR hm.h hit, small_sizeLine (by lia), S4, ⟨rfl, ⟨xs1, hp1, rfl⟩, [], .nil, (fun _ h => nomatch h), rfl⟩, fun _ _ _ _ _ _ _ => trivial, ?_, ?_⟩
  · rintro i F' ys N' v mc C acc s5 hi ⟨tv, rfl⟩ ⟨rfl, ⟨xs', hp', rfl⟩, ks, hks, hk20, hkl⟩ S5
    show wpAny _ _ (pure true) _ _ _
    refine wpAny_pure ?_
    (repeat cell_call)
    rename_i S6
    have S6 := S6.up 3 rfl
    (dsimp only [List.eraseIdx, List.take, List.drop, List.cons_append, List.nil_append, List.set] at S6)
    refine law_take_ (many := 20) S6 (hm.mono (by decide)) hp' (by decide) (by decide) fun k2 t2 xs2 s6 hk2 hp2 S7 => ?_
    have S7 := S7.down 3
    (dsimp only [List.eraseIdx, List.take, List.drop, List.cons_append, List.nil_append, List.set] at S7)
    refine ⟨F', _, _, ⟨rfl, ⟨xs2, hp2, rfl⟩, ks ++ [k2], ?_, ?_, ?_⟩, S7⟩
    · rw [List.map_append]
      exact hks.append (.cons _ _ .nil)
    · intro k hk
      rcases List.mem_append.mp hk with hk | hk
      · exact hk20 k hk
      · rw [List.mem_singleton] at hk; lia
    · simp [hkl]
  · rintro F' ys N' acc s5 ⟨rfl, ⟨xs', hp', rfl⟩, ks, hks, hk20, hkl⟩ hlen hacc S5
    refine addL S5 (.inl (by ((repeat (first | exact List.Mem.head _ | refine List.Mem.tail _ ?_))))) (.inl (.head _)) (by simp; lia) fun al s6 hal S6 => ?_
    (repeat cell_call)
    have hI : IntsAre (Value.int 4 t4 :: ys) ((4 : Int) :: ks.map fun n : Nat => (n : Int)) := .cons _ _ hks
    have hyl : ys.length = k1 := by have := hks.length; rw [List.length_map] at this; lia
    refine mkSet hm.h S6 (.inl (.head _)) (by simpa using hI) (by simp [scanBound]; lia) fun sa s7 hsa S7 => ?_
    (repeat cell_call)
    have hsl := firstMet_length_le (fun i => ((4 : Int) :: ks.map fun n : Nat => (n : Int)).getD i 0) ([Value.int 4 t4] ++ ys).length
    have hsm := fun k => firstMet_mem (fun i => ((4 : Int) :: ks.map fun n : Nat => (n : Int)).getD i 0) ([Value.int 4 t4] ++ ys).length k
    have hsn := firstMet_nodup (fun i => ((4 : Int) :: ks.map fun n : Nat => (n : Int)).getD i 0) ([Value.int 4 t4] ++ ys).length
    have hlen14 : ([Value.int 4 t4] ++ ys).length = k1 + 1 := by simp [hyl]
    generalize firstMet (fun i => ((4 : Int) :: ks.map fun n : Nat => (n : Int)).getD i 0) ([Value.int 4 t4] ++ ys).length = σ at *
    have hσ : ∀ k ∈ σ, 0 ≤ k ∧ k < 20 := fun k hk => by
      obtain ⟨j, hj, rfl⟩ := (hsm k).mp hk
      cases j with
      | zero => simp
      | succ j =>
        show 0 ≤ (ks.map fun n : Nat => (n : Int)).getD j 0 ∧ (ks.map fun n : Nat => (n : Int)).getD j 0 < 20
        rw [List.getD_eq_getElem?_getD, List.getElem?_map]
        cases q : ks[j]? with
        | none => simp
        | some n =>
          have := hk20 n (List.mem_of_getElem? q)
          simp; lia
    refine sortedSet hm.h S7 (.inl (.head _)) (by lia) fun nl s8 out ns' hnl hI' hp9 hs9 S8 => ?_
    obtain ⟨e1, e2⟩ := sorted_nats hp9 hsn hs9 fun k hk => (hσ k hk).1
    have S8 := ((S8.eraseIdx 1).eraseIdx 1).eraseIdx 1
    (dsimp only [List.eraseIdx, List.take, List.drop, List.cons_append, List.nil_append, List.set] at S8)
    have S8 := (S8.eraseIdx 2).down 7
    (dsimp only [List.eraseIdx, List.take, List.drop, List.cons_append, List.nil_append, List.set] at S8)
    have S8 := S8.down 6
    (dsimp only [List.eraseIdx, List.take, List.drop, List.cons_append, List.nil_append, List.set] at S8)
    refine stL S8 (fun s9 S9 => ?_) rfl rfl
    refine h nl (ns'.map Int.toNat) out xs' _ _ e2 ?_ ?_ ?_ (by rw [← e1]; exact hI') hp' ?_ ?_ S9
    · intro z
      have z2 : σ = [] := by
        have := hp9.length_eq
        rw [List.map_eq_nil_iff] at z
        rw [z] at this
        exact List.eq_nil_of_length_eq_zero this.symm
      have := (hsm 4).mpr ⟨0, by lia, rfl⟩
      rw [z2] at this; cases this
    · rw [List.length_map, hp9.length_eq]; lia
    · intro n hn
      obtain ⟨k, hk, rfl⟩ := List.mem_map.mp hn
      have := hσ k (hp9.mem_iff.mp hk)
      lia
    · rfl
    · rfl
end

-- D4
section
variable {prog : Program} {w : World} {A : Around} {P : Params} {s₀ s : Shared} {X : List Addr} {F : Fz} {N : Led} {E : Value → Shared → Prop} {K : Frag}
set_option maxHeartbeats 2000000 in
theorem law3 {L fa pl nl : Addr} {cd : Value} {xs vs : List Value} {ns : List Nat} {m : Str → Option Value} {b : Bool} {tw : Tok} {Q : Flow → Shared → Prop} (hm : Rm A 70) (hlen : ns.length ≤ 13) (h20 : ∀ n ∈ ns, n < 20) (hi : IntsAre vs (ns.map fun n : Nat => (n : Int))) (hmn : m (Str.ofString "numbers") = some (.ref nl))
    (S : At (hd.heap_1 P) s₀ X F ((L, NsO m) :: (L + 1 + 1 + 1 + 1 + 1, CellO none) :: (L + 1 + 1 + 1 + 1, CellO none) :: (L + 1 + 1 + 1, CellO none) :: (L + 1 + 1, CellO (some (.str (wordS b) tw))) :: (L + 1, CellO (some (.ref pl))) :: (pl, ListO xs) :: (nl, ListO vs) :: N) s)
    (h : ∀ pr ps F' m' s', Grow s₀.heap.objs.size F F' → Has F' pr (ListO ps) → Al (PairF F' b) ns ps → m' (Str.ofString "width") = m (Str.ofString "width") → m' (Str.ofString "pairs") = some (.ref pr) → At (hd.heap_1 P) s₀ X F' ((L, NsO m') :: (L + 1 + 1 + 1 + 1 + 1, CellO none) :: (L + 1 + 1 + 1 + 1, CellO none) :: (L + 1 + 1 + 1, CellO none) :: (L + 1 + 1, CellO (some (.str (wordS b) tw))) :: (L + 1, CellO (some (.ref pl))) :: (pl, ListO xs) :: N) s' →
      wpAny (model prog w) A (execs (lawBody.drop 4) (lawEnv L fa cd)) Q E s') : wpAny (model prog w) A (execs (lawBody.drop 3) (lawEnv L fa cd)) Q E s := by
  have hvl : vs.length = ns.length := by have := hi.length; rwa [List.length_map] at this
  show wpAny _ _ (execs (_ :: _) _) _ _ _
  (repeat cell_call)
  refine compA0 (K := hd.heap_1 P) (X := X) (s₀ := s₀) rfl (by exact rfl) (by decide) rfl (by decide) (by exact rfl) (by exact rfl) (by exact rfl) ?_
  (repeat cell_call)
  refine iterL (by assumption) (.inl (by ((repeat (first | exact List.Mem.head _ | refine List.Mem.tail _ ?_))))) fun it s2 hit S2 => ?_
  refine ⟨it, _, vs.length, _, _, F, m, _, fun i F' ys => Grow s₀.heap.objs.size F F' ∧ Al (PairF F' b) (ns.take i) ys, rfl, srcL (xs := vs) hm.h hit, small_sizeLine (by lia), S2, ⟨Grow.refl _ _, by simpa using .nil⟩, fun i F' ys N' hI hN => .inl (hN _ (by ((repeat (first | exact List.Mem.head _ | refine List.Mem.tail _ ?_))))), ?_, ?_⟩
  · rintro i F' ys v mc C acc s5 hi' hv ⟨g, hys⟩ S5
    obtain ⟨k, t, rfl, hk⟩ := hi.at i v hv
    rw [List.getElem?_map] at hk
    obtain ⟨n, hn, rfl⟩ := Option.map_eq_some_iff.mp hk
    have hn20 := h20 n (List.mem_of_getElem? hn)
    show wpAny _ _ (pure true) _ _ _
    refine wpAny_pure ?_
    (repeat cell_call)
    refine law_key_ (by assumption) (hm.mono (by decide)) (by lia) fun kv s6 hkv S6 => ?_
    (repeat cell_call)
    refine mkTup (by assumption) (by (exact small_sizeLine (by simp))) fun a s7 ha S7 => ?_
    obtain ⟨o, po, hfa, gr, S8⟩ := S7.freeze ha
    refine ⟨_, _, ⟨g.trans gr (Nat.le_refl _), ?_⟩, S8⟩
    rw [take_snoc hn]
    exact (hys.mono fun _ _ hp => hp.mono gr.1).snoc ⟨a, kv, t, rfl, ⟨o, Fz.add_self _ _ _, po⟩, hkv⟩
  · rintro F' ys acc s5 ⟨g, hys⟩ hlen' hacc S5
    obtain ⟨o, po, hfa, gr, S6⟩ := S5.swap.freeze hacc
    rw [List.take_of_length_le (by lia)] at hys
    have S6 := S6.eraseIdx 7
    (dsimp only [List.eraseIdx, List.take, List.drop, List.cons_append, List.nil_append, List.set] at S6)
    exact h acc ys _ (fun z => if z = Str.ofString "pairs" then some (Value.ref acc) else m z) _ (g.trans gr (Nat.le_refl _)) ⟨o, Fz.add_self _ _ _, po⟩ (hys.mono fun _ _ hp => hp.mono gr.1) rfl rfl S6
set_option maxHeartbeats 2000000 in
theorem law4 {L fa pl : Addr} {cd : Value} {c1 c2 c3 c4 c5 : OP} {xs : List Value} {m : Str → Option Value} {Q : Flow → Shared → Prop} (hm : Rm A 70)
    (S : At (hd.heap_1 P) s₀ X F ((L, NsO m) :: (L + 1 + 1 + 1 + 1 + 1, c5) :: (L + 1 + 1 + 1 + 1, c4) :: (L + 1 + 1 + 1, c3) :: (L + 1 + 1, c2) :: (L + 1, c1) :: (pl, ListO xs) :: N) s)
    (h : ∀ sh T tr F' m' s', s₀.heap.objs.size ≤ T → 3 < T → Grow s₀.heap.objs.size F F' → InstF F' sh 363 [(Str.ofString "table", .ref T), (Str.ofString "trailer", .ref tr)] → (∀ y, y ≠ Str.ofString "shelf" → m' y = m y) → m' (Str.ofString "shelf") = some (.ref sh) →
      At (hd.heap_1 P) s₀ X F' ((L, NsO m') :: (L + 1 + 1 + 1 + 1 + 1, c5) :: (L + 1 + 1 + 1 + 1, c4) :: (L + 1 + 1 + 1, c3) :: (L + 1 + 1, c2) :: (L + 1, c1) :: (pl, ListO xs) :: (T, DictI prog w []) :: N) s' →
      wpAny (model prog w) A (execs (lawBody.drop 5) (lawEnv L fa cd)) Q E s') : wpAny (model prog w) A (execs (lawBody.drop 4) (lawEnv L fa cd)) Q E s := by
  show wpAny _ _ (execs (_ :: _) _) _ _ _
  (repeat cell_call)
  refine mkShelf (by assumption) (hm.mono (by decide)) fun sh T tr F' s2 hT h3 g hi S2 => ?_
  have S2 := S2.down 7
  (dsimp only [List.eraseIdx, List.take, List.drop, List.cons_append, List.nil_append, List.set] at S2)
  refine stL S2 (fun s3 S3 => ?_) rfl rfl
  exact h sh T tr F' _ s3 hT h3 g hi (fun y hy => if_neg hy) (if_pos rfl) S3
theorem RootB.len {prog : Program} {w : World} {F : Fz} {b : Bool} : ∀ {h : Nat} {t : Tr h} {kvs : List (Str × Value)}, RootB prog w F b h t kvs → kvs.length = 1
  | 0, _, _, ⟨_, _, e, _⟩ => by rw [e]; rfl
  | _ + 1, _, _, ⟨_, _, e, _⟩ => by rw [e]; rfl
set_option maxHeartbeats 2000000 in
theorem law5 {L fa pl pr sh T tr : Addr} {cd : Value} {c1 c3 c4 c5 : OP} {xs ps : List Value} {ns : List Nat} {m : Str → Option Value} {b : Bool} {tw tn : Tok} {wi : Nat} {Q : Flow → Shared → Prop} (hm : Rm A 70) (hs : Srt ns) (hne : ns ≠ []) (hlen : ns.length ≤ 13) (hw2 : 2 ≤ wi) (hw4 : wi ≤ 4)
    (hpr : Has F pr (ListO ps)) (hps : Al (PairF F b) ns ps) (hsh : InstF F sh 363 [(Str.ofString "table", .ref T), (Str.ofString "trailer", .ref tr)]) (h3 : 3 < T) (hF : LamF F 454 452)
    (m1 : m (Str.ofString "width") = some (.int wi tn)) (m2 : m (Str.ofString "pairs") = some (.ref pr)) (m3 : m (Str.ofString "shelf") = some (.ref sh))
    (S : At (hd.heap_1 P) s₀ X F ((L, NsO m) :: (L + 1 + 1 + 1 + 1 + 1, c5) :: (L + 1 + 1 + 1 + 1, c4) :: (L + 1 + 1 + 1, c3) :: (L + 1 + 1, CellO (some (.str (wordS b) tw))) :: (L + 1, c1) :: (pl, ListO xs) :: (T, DictI prog w []) :: (452, fun o => o = tabObj #[]) :: N) s)
    (h : ∀ h t d kvs tb (n : Nat) F' m' s', Grow s₀.heap.objs.size F F' → HasD prog w F' d kvs → Body prog w F' tb b (fun _ => False) h ((n : Int) + 1) t kvs → TbOK tb n → n ≤ 1000 → flat h t = ns → h ≤ 30 → tsize h t ≤ 1000 → (∀ y, y ≠ Str.ofString "root" → m' y = m y) → m' (Str.ofString "root") = some (.ref d) →
      At (hd.heap_1 P) s₀ X F' ((L, NsO m') :: (L + 1 + 1 + 1 + 1 + 1, c5) :: (L + 1 + 1 + 1 + 1, c4) :: (L + 1 + 1 + 1, c3) :: (L + 1 + 1, CellO (some (.str (wordS b) tw))) :: (L + 1, c1) :: (pl, ListO xs) :: (T, DictI prog w tb) :: (452, fun o => ∃ ps, o = tabObj ps) :: N) s' →
      wpAny (model prog w) A (execs (lawBody.drop 6) (lawEnv L fa cd)) Q E s') : wpAny (model prog w) A (execs (lawBody.drop 5) (lawEnv L fa cd)) Q E s := by
  have hpl := hps.length
  show wpAny _ _ (execs (_ :: _) _) _ _ _
  (repeat cell_call)
  refine mkSlice (K := hd.heap_1 P) (X := X) (s₀ := s₀) ?_
  refine evalPart_none_step ?_
  refine evalPart_none_step ?_
  refine evalPart_some_step ?_
  (repeat cell_call)
  refine negI (by assumption) ?_
  intro t9 _ _
  refine ⟨_, _, by assumption, fun sl s1 hsl S1 => ?_⟩
  refine subSl S1 (.inr hpr) (.inl (.head _)) .none .none (.int _ _) (by simp) (by lia) (fun q s2 hq S2 => ?_) rfl (by intro _; rfl)
  rw [show (slicePick ps.toArray none none (some (-1))).toList = ps.reverse from by rw [krv_pick]] at S2
  obtain ⟨o, po, hfq, gr, S3⟩ := S2.freeze hq
  have S3 := S3.tail
  (repeat cell_call)
  refine tree_built_ (i := 8) (by assumption) (hm.mono (by decide)) rfl (hF.mono gr.1) ⟨o, Fz.add_self _ _ _, po⟩ ((hps.mono fun _ _ z => PairF.mono z gr.1).reverse) hs hne (by lia) hw2 (by lia) fun d F2 s3 h1 t1 kvs g2 hd2 hroot hflat hh hz S4 => ?_
  have g2 := g2.mono (n := s₀.heap.objs.size) (At.size (by assumption))
  have g12 := gr.trans g2 (Nat.le_refl _)
  (repeat cell_call)
  have S5 := S4.up 8 rfl
  (dsimp only [List.eraseIdx, List.take, List.drop, List.cons_append, List.nil_append, List.set] at S5)
  refine tree_laid_ h3 h1 S5 (hm.mono (by lia)) ⟨tr, hsh.mono g12.1⟩ (n := 0) ⟨rfl, fun k => by simp [valueAt]; lia⟩ (by lia) hd2 hroot.node (by rw [hroot.len]; decide) fun d' F3 s4 kvs' tb' n' g3 hd3 _ hbody htb hn' _ S6 => ?_
  have g3 := g3.mono (n := s₀.heap.objs.size) (At.size (by assumption))
  have S7 := S6.down 8
  (dsimp only [List.eraseIdx, List.take, List.drop, List.cons_append, List.nil_append, List.set] at S7)
  have S7 := S7.down 8
  (dsimp only [List.eraseIdx, List.take, List.drop, List.cons_append, List.nil_append, List.set] at S7)
  refine stL S7 (fun s8 S8 => ?_) rfl rfl
  exact h h1 t1 d' kvs' tb' n' F3 _ s8 (g12.trans g3 (Nat.le_refl _)) hd3 hbody htb (by lia) hflat hh hz (fun y hy => if_neg hy) (if_pos rfl) S8
end

-- D5
theorem raw3 {b : Bool} {rs : List Int} {vs out : List Value} (h : RawOut rs vs out) (hk : Al (fun r k => RawK b r k) rs vs) (h3 : rs.length = 3) : ∃ v0 v1 v2 r0 r1 r2, out = [v0, v1, v2] ∧ RawK b r0 v0 ∧ RawK b r1 v1 ∧ RawK b r2 v2 ∧ r0 ≤ r1 ∧ r1 ≤ r2 := by
  obtain ⟨ps, hp, rfl, hs⟩ := h
  have hl := hk.length
  have hlen : ps.length = 3 := by rw [hp.length_eq, List.length_zip]; lia
  have hz : ∀ (rs : List Int) (vs : List Value), Al (fun r k => RawK b r k) rs vs → ∀ p ∈ rs.zip vs, RawK b p.1 p.2 := by
    intro rs vs h
    induction h with
    | nil => intro p hp; cases hp
    | cons a _ ih =>
      intro p hp
      rw [List.zip_cons_cons] at hp
      rcases List.mem_cons.mp hp with rfl | hp
      · exact a
      · exact ih p hp
  have hq : ∀ p ∈ ps, RawK b p.1 p.2 := fun p hpp => hz rs vs hk p (hp.mem_iff.mp hpp)
  match ps, hlen with
  | [a, c, d], _ =>
    have h1 := List.pairwise_cons.mp hs
    have h2 := List.pairwise_cons.mp h1.2
    exact ⟨a.2, c.2, d.2, a.1, c.1, d.1, rfl, hq a (by simp), hq c (by simp), hq d (by simp), h1.1 c (by simp), h2.1 d (by simp)⟩
section
variable {prog : Program} {w : World} {A : Around} {P : Params} {s₀ s : Shared} {X : List Addr} {F : Fz} {N : Led} {E : Value → Shared → Prop} {K : Frag}
/-- a list is taken apart -/
theorem unpackLs {env : Env} {elts : List PySem.Expr} {kd : Nat} {pos : Pos} {t : Addr} {xs : List Value} {Q : Unit → Shared → Prop} (hh : A.handled = none) (S : At K s₀ X F N s) (hl : Here F N t (ListO xs)) (hN : ∃ p ∈ N, s₀.heap.objs.size ≤ p.1)
    (hn : (assignEach elts env).length = xs.length) (hstar : (assignEach elts env).findIdx? (·.1) = none)
    (h : ∀ s', At K s₀ X F N s' → wpAny (model prog w) A (assignInOrder ((assignEach elts env).map (·.2)) xs) Q E s') :
    wpAny (model prog w) A (assign (.Tuple elts kd pos) env (.ref t)) Q E s := by
  rw [arm_assign_Tuple]
  refine wpAny_bind (wpAny_standAt ?_)
  unfold unpack
  have hn' : (assignEach elts env).length = xs.toArray.size := by rw [List.size_toArray]; exact hn
  rw [hn', hstar]
  refine wpAny_bind (wpAny_holding (kun_itemsOf hh (S.isList hl) fun h' he => ?_))
  refine h { s with heap := h' } ?_
  obtain ⟨p, hp, hle⟩ := hN
  refine ⟨S.top, S.rest, ?_, fun b o e n => he b o (Nat.ne_of_lt (Heap.lt_size (S.ext b o e n))) (S.ext b o e n), fun b o e => he b o (Nat.ne_of_lt (Heap.lt_size (S.fz b o e))) (S.fz b o e), fun q hq => ?_, S.nodup⟩
  · obtain ⟨⟨o, e, _⟩, _⟩ := S.news p hp
    exact Nat.le_of_lt (Nat.lt_of_le_of_lt hle (Heap.lt_size (he _ _ (Nat.ne_of_lt (Heap.lt_size e)) e)))
  · obtain ⟨⟨o, e, r⟩, x⟩ := S.news q hq
    exact ⟨⟨o, he _ _ (Nat.ne_of_lt (Heap.lt_size e)) e, r⟩, x⟩
set_option maxHeartbeats 2000000 in
theorem law6 {L fa pl : Addr} {cd : Value} {c3 c4 c5 : OP} {xs : List Value} {m : Str → Option Value} {b : Bool} {tw : Tok} {Q : Flow → Shared → Prop} (hm : Rm A 70) (hp : PoolOK xs)
    (S : At (hd.heap_1 P) s₀ X F ((L, NsO m) :: (L + 1 + 1 + 1 + 1 + 1, c5) :: (L + 1 + 1 + 1 + 1, c4) :: (L + 1 + 1 + 1, c3) :: (L + 1 + 1, CellO (some (.str (wordS b) tw))) :: (L + 1, CellO (some (.ref pl))) :: (pl, ListO xs) :: N) s)
    (h : ∀ bl v0 v1 v2 r0 r1 r2 xs' m' s', PoolOK xs' → RawK b r0 v0 → RawK b r1 v1 → RawK b r2 v2 → r0 ≤ r1 → r1 ≤ r2 → (∀ y, y ≠ Str.ofString "bounds" → m' y = m y) → m' (Str.ofString "bounds") = some (.ref bl) →
      At (hd.heap_1 P) s₀ X F ((L, NsO m') :: (L + 1 + 1 + 1 + 1 + 1, c5) :: (L + 1 + 1 + 1 + 1, c4) :: (L + 1 + 1 + 1, c3) :: (L + 1 + 1, CellO (some (.str (wordS b) tw))) :: (L + 1, CellO (some (.ref pl))) :: (pl, ListO xs') :: (bl, ListO [v0, v1, v2]) :: N) s' →
      wpAny (model prog w) A (execs (lawBody.drop 7) (lawEnv L fa cd)) Q E s') : wpAny (model prog w) A (execs (lawBody.drop 6) (lawEnv L fa cd)) Q E s := by
  show wpAny _ _ (execs (_ :: _) _) _ _ _
  (repeat cell_call)
  refine compE (K := hd.heap_1 P) (X := X) (s₀ := s₀) (by exact rfl) (by decide) rfl (by decide) (by exact rfl) ?_
  (repeat cell_call)
  refine range1 (by assumption) fun r s3 S3 => ?_
  refine iterRange (n := 3) S3 (.inl (.head _)) (by decide) (by decide) (by decide) (by decide) (by decide) fun it s4 hit S4 => ?_
  have S4 := (S4.eraseIdx 1).up 7 rfl
  (dsimp only [List.eraseIdx, List.take, List.drop, List.cons_append, List.nil_append, List.set] at S4)
  have S4 := S4.swap
  refine ⟨it, _, 3, _, _, F, _, fun i F' ys N' => F' = F ∧ (∃ xs', PoolOK xs' ∧ N' = (pl, ListO xs') :: (L, NsO m) :: (L + 1 + 1 + 1 + 1 + 1, c5) :: (L + 1 + 1 + 1 + 1, c4) :: (L + 1 + 1 + 1, c3) :: (L + 1 + 1, CellO (some (.str (wordS b) tw))) :: (L + 1, CellO (some (.ref pl))) :: N) ∧
    ∃ rs, Al (fun r k => RawK b r k) rs ys ∧ rs.length = i, rfl, srcR hm.h hit, small_sizeLine (by lia), S4, ⟨rfl, ⟨xs, hp, rfl⟩, [], .nil, rfl⟩, fun _ _ _ _ _ _ _ => trivial, ?_, ?_⟩
  · rintro i F' ys N' v mc C acc s5 hi ⟨tv, rfl⟩ ⟨rfl, ⟨xs', hp', rfl⟩, rs, hrs, hrl⟩ S5
    show wpAny _ _ (pure true) _ _ _
    refine wpAny_pure ?_
    (repeat cell_call)
    rename_i S6
    have S6 := S6.up 3 rfl
    (dsimp only [List.eraseIdx, List.take, List.drop, List.cons_append, List.nil_append, List.set] at S6)
    refine law_take_ (many := 62) S6 (hm.mono (by decide)) hp' (by decide) (by decide) fun k2 t2 xs2 s6 hk2 hp2 S7 => ?_
    have S7 := S7.down 3
    (dsimp only [List.eraseIdx, List.take, List.drop, List.cons_append, List.nil_append, List.set] at S7)
    (repeat cell_call)
    refine law_bound_ S7 (hm.mono (by decide)) hk2 fun bv s7 hbv S8 => ?_
    exact ⟨F', _, _, ⟨rfl, ⟨xs2, hp2, rfl⟩, rs ++ [rkb b k2], hrs.snoc hbv, by simp [hrl]⟩, S8⟩
  · rintro F' ys N' acc s5 ⟨rfl, ⟨xs', hp', rfl⟩, rs, hrs, hrl⟩ hlen hacc S5
    (repeat cell_call)
    have hrl2 := hrs.length
    refine rsSorted0 S5 (.inl (.head _)) hrs (by lia) fun bl s6 out hbl S6 hout => ?_
    obtain ⟨v0, v1, v2, r0, r1, r2, rfl, k0, k1, k2, h01, h12⟩ := raw3 hout hrs hrl
    have S6 := (S6.eraseIdx 1).down 7
    (dsimp only [List.eraseIdx, List.take, List.drop, List.cons_append, List.nil_append, List.set] at S6)
    have S6 := S6.down 6
    (dsimp only [List.eraseIdx, List.take, List.drop, List.cons_append, List.nil_append, List.set] at S6)
    refine stL S6 (fun s8 S8 => ?_) rfl rfl
    exact h bl v0 v1 v2 r0 r1 r2 xs' _ s8 hp' k0 k1 k2 h01 h12 (fun y hy => if_neg hy) (if_pos rfl) S8
set_option maxHeartbeats 2000000 in
theorem law7 {L fa bl : Addr} {cd v0 v1 v2 : Value} {c1 c2 : OP} {m : Str → Option Value} {p6 : Addr × OP} {Q : Flow → Shared → Prop} (hm : Rm A 70) (hL : s₀.heap.objs.size ≤ L) (hmb : m (Str.ofString "bounds") = some (.ref bl))
    (S : At (hd.heap_1 P) s₀ X F ((L, NsO m) :: (L + 1 + 1 + 1 + 1 + 1, CellO none) :: (L + 1 + 1 + 1 + 1, CellO none) :: (L + 1 + 1 + 1, CellO none) :: (L + 1 + 1, c2) :: (L + 1, c1) :: p6 :: (bl, ListO [v0, v1, v2]) :: N) s)
    (h : ∀ s', At (hd.heap_1 P) s₀ X F ((L, NsO m) :: (L + 1 + 1 + 1 + 1 + 1, CellO (some v2)) :: (L + 1 + 1 + 1 + 1, CellO (some v1)) :: (L + 1 + 1 + 1, CellO (some v0)) :: (L + 1 + 1, c2) :: (L + 1, c1) :: p6 :: N) s' →
      wpAny (model prog w) A (execs (lawBody.drop 8) (lawEnv L fa cd)) Q E s') : wpAny (model prog w) A (execs (lawBody.drop 7) (lawEnv L fa cd)) Q E s := by
  show wpAny _ _ (execs (_ :: _) _) _ _ _
  (repeat cell_call)
  refine Assign_Tuple ?_ rfl rfl
  (repeat cell_call)
  refine unpackLs hm.h S (.inl (by ((repeat (first | exact List.Mem.head _ | refine List.Mem.tail _ ?_))))) ⟨_, .head _, hL⟩ rfl rfl fun s1 S1 => ?_
  refine wpAny_assignInOrder_more ?_
  refine wpAny_assign_Name ?_
  refine stC (i := 3) S1 rfl rfl (fun s2 S2 => ?_) rfl rfl
  (dsimp only [List.eraseIdx, List.take, List.drop, List.cons_append, List.nil_append, List.set] at S2)
  refine wpAny_assignInOrder_more ?_
  refine wpAny_assign_Name ?_
  refine stC (i := 2) S2 rfl rfl (fun s3 S3 => ?_) rfl rfl
  (dsimp only [List.eraseIdx, List.take, List.drop, List.cons_append, List.nil_append, List.set] at S3)
  refine wpAny_assignInOrder_more ?_
  refine wpAny_assign_Name ?_
  refine stC (i := 1) S3 rfl rfl (fun s4 S4 => ?_) rfl rfl
  (dsimp only [List.eraseIdx, List.take, List.drop, List.cons_append, List.nil_append, List.set] at S4)
  ((refine wpAny_assignInOrder_none ?_))
  have S4 := S4.eraseIdx 7
  (dsimp only [List.eraseIdx, List.take, List.drop, List.cons_append, List.nil_append, List.set] at S4)
  exact h s4 S4
end

-- D6
structure TreeF (prog : Program) (w : World) (F : Fz) (b : Bool) (sh T : Addr) (tb : List (Int × Value)) (h : Nat) (t : Tr h) (d : Addr) (kvs : List (Str × Value)) (n : Nat) : Prop where
  sh : ShF prog w F sh T tb
  dd : HasD prog w F d kvs
  bd : Body prog w F tb b (fun _ => False) h ((n : Int) + 1) t kvs
  srt : Srt (flat h t)
  hh : h ≤ 30
  sz : tsize h t ≤ 1000
  fl : (flat h t).length ≤ 13
  f20 : ∀ n ∈ flat h t, n < 20
theorem TreeF.mono {prog : Program} {w : World} {F F' : Fz} {b : Bool} {sh T : Addr} {tb : List (Int × Value)} {h : Nat} {t : Tr h} {d : Addr} {kvs : List (Str × Value)} {n : Nat} (x : TreeF prog w F b sh T tb h t d kvs n) (l : F.le F') : TreeF prog w F' b sh T tb h t d kvs n :=
  ⟨x.sh.mono l, x.dd.mono l, x.bd.mono l (fun _ _ h => h) (Int.le_refl _), x.srt, x.hh, x.sz, x.fl, x.f20⟩
theorem flt_all {ns : List Nat} (h : ∀ n ∈ ns, n < 20) : flt 0 60 ns = ns := by
  unfold flt
  rw [List.filter_eq_self]
  intro n hn
  have := h n hn
  simp; lia
theorem flt_one : ∀ {ns : List Nat} {n : Nat}, Srt ns → n ∈ ns → flt (3 * (n : Int)) (3 * (n : Int)) ns = [n]
  | x :: xs, n, hs, hn => by
    obtain ⟨h1, h2⟩ := List.pairwise_cons.mp hs
    rcases List.mem_cons.mp hn with rfl | hn
    · have : flt (3 * (n : Int)) (3 * (n : Int)) xs = [] := flt_nil fun y hy => by have := h1 y hy; lia
      unfold flt at this ⊢
      rw [List.filter_cons, this]
      simp
    · have := h1 n hn
      have ih := flt_one h2 hn
      unfold flt at ih ⊢
      rw [List.filter_cons, ih, if_neg]
      simp; lia
theorem flt_none {lo hi : Int} {ns : List Nat} (h : lo < hi) : flt hi lo ns = [] := flt_nil fun n _ => by lia
theorem flt_join {lo mi hi : Int} (h1 : lo ≤ mi) (h2 : mi ≤ hi) : ∀ {ns : List Nat}, Srt ns → flt lo mi ns ++ (flt mi hi ns).filter (fun n : Nat => decide (3 * (n : Int) ≠ mi)) = flt lo hi ns
  | [], _ => rfl
  | x :: xs, hs => by
    obtain ⟨a1, a2⟩ := List.pairwise_cons.mp hs
    have ih := flt_join h1 h2 a2
    unfold flt at ih ⊢
    rcases Int.lt_or_le mi (3 * (x : Int)) with c | c
    · have e0 : xs.filter (fun n : Nat => decide (lo ≤ 3 * (n : Int)) && decide (3 * (n : Int) ≤ mi)) = [] := flt_nil fun y hy => by have := a1 y hy; lia
      rw [e0, List.nil_append] at ih
      rw [List.filter_cons, if_neg (by simp; lia), e0, List.nil_append, List.filter_cons]
      by_cases c2 : 3 * (x : Int) ≤ hi
      · rw [if_pos (by simp; lia), List.filter_cons, if_pos (by simp; lia), List.filter_cons, if_pos (by simp; lia), ih]
      · rw [if_neg (by simp; lia), List.filter_cons, if_neg (by simp; lia), ih]
    · by_cases c1 : lo ≤ 3 * (x : Int)
      · rw [List.filter_cons, if_pos (by simp; lia), List.cons_append]
        have e2 : ((x :: xs).filter (fun n : Nat => decide (mi ≤ 3 * (n : Int)) && decide (3 * (n : Int) ≤ hi))).filter (fun n : Nat => decide (3 * (n : Int) ≠ mi)) = (xs.filter (fun n : Nat => decide (mi ≤ 3 * (n : Int)) && decide (3 * (n : Int) ≤ hi))).filter (fun n : Nat => decide (3 * (n : Int) ≠ mi)) := by
          rw [List.filter_cons]
          split
          · rw [List.filter_cons, if_neg (by rename_i q; simp at q ⊢; lia)]
          · rfl
        rw [e2, ih, List.filter_cons, if_pos (by simp; lia)]
      · rw [List.filter_cons, if_neg (by simp; lia)]
        have e2 : ((x :: xs).filter (fun n : Nat => decide (mi ≤ 3 * (n : Int)) && decide (3 * (n : Int) ≤ hi))) = xs.filter (fun n : Nat => decide (mi ≤ 3 * (n : Int)) && decide (3 * (n : Int) ≤ hi)) := by
          rw [List.filter_cons, if_neg (by simp; lia)]
        rw [e2, ih, List.filter_cons, if_neg (by simp; lia)]
section
variable {prog : Program} {w : World} {A : Around} {P : Params} {s₀ s : Shared} {X : List Addr} {F : Fz} {N : Led} {E : Value → Shared → Prop} {K : Frag}
theorem span_ {sh T d : Addr} {tb : List (Int × Value)} {b : Bool} {tw : Tok} {lo hi : Int} {lov hiv : Value} {h : Nat} {t : Tr h} {n : Nat} {kvs : List (Str × Value)} {Q : Value → Shared → Prop}
    (S : At (hd.heap_1 P) s₀ X F N s) (hm : Rm A 6) (tf : TreeF prog w F b sh T tb h t d kvs n) (hlo : RawK b lo lov) (hhi : RawK b hi hiv)
    (hq : ∀ a F' ps s', Grow s₀.heap.objs.size F F' → Has F' a (ListO ps) → Al (PairF F' b) (flt lo hi (flat h t)) ps → At (hd.heap_1 P) s₀ X F' N s' → Q (.ref a) s') :
    wpAny (model prog w) A (call (.ref 424) [.ref sh, .ref d, .str (wordS b) tw, lov, hiv]) Q E s := by
  refine tree_span_ S hm tf.sh hlo hhi tf.dd.notRef ⟨tf.dd.notRef, .inl rfl⟩ tf.dd tf.bd (fun _ _ h => h) tf.srt (Nat.le_trans tf.hh (by decide)) tf.sz (Nat.le_trans tf.fl (by decide)) (fun _ _ _ h => h.elim) fun a F' ps s' ha g hps S1 => ?_
  have g := g.mono (n := s₀.heap.objs.size) S.size
  obtain ⟨o, po, hf, gr, S2⟩ := S1.freeze ha
  exact hq a _ ps s' (g.trans gr (Nat.le_refl _)) ⟨o, Fz.add_self _ _ _, po⟩ (hps.mono fun _ _ z => PairF.mono z gr.1) S2
set_option maxHeartbeats 2000000 in
theorem law8 {L fa pl pr sh T d : Addr} {cd lov miv hiv : Value} {xs ps : List Value} {lo mi hi : Int} {m : Str → Option Value} {b : Bool} {tw : Tok} {tb : List (Int × Value)} {h : Nat} {t : Tr h} {kvs : List (Str × Value)} {n : Nat} {Q : Flow → Shared → Prop} (hm : Rm A 70) (tf : TreeF prog w F b sh T tb h t d kvs n) (k0 : RawK b lo lov) (k1 : RawK b mi miv) (k2 : RawK b hi hiv) (m1 : m (Str.ofString "shelf") = some (.ref sh)) (m2 : m (Str.ofString "root") = some (.ref d))
    (S : At (hd.heap_1 P) s₀ X F ((L, NsO m) :: (L + 1 + 1 + 1 + 1 + 1, CellO (some hiv)) :: (L + 1 + 1 + 1 + 1, CellO (some miv)) :: (L + 1 + 1 + 1, CellO (some lov)) :: (L + 1 + 1, CellO (some (.str (wordS b) tw))) :: (L + 1, CellO (some (.ref pl))) :: (pl, ListO xs) :: N) s)
    (hk : ∀ wl ws F' m' s', Grow s₀.heap.objs.size F F' → Has F' wl (ListO ws) → Al (PairF F' b) (flt lo hi (flat h t)) ws → (∀ y, y ≠ Str.ofString "whole" → m' y = m y) → m' (Str.ofString "whole") = some (.ref wl) → At (hd.heap_1 P) s₀ X F' ((L, NsO m') :: (L + 1 + 1 + 1 + 1 + 1, CellO (some hiv)) :: (L + 1 + 1 + 1 + 1, CellO (some miv)) :: (L + 1 + 1 + 1, CellO (some lov)) :: (L + 1 + 1, CellO (some (.str (wordS b) tw))) :: (L + 1, CellO (some (.ref pl))) :: (pl, ListO xs) :: N) s' → wpAny (model prog w) A (execs (lawBody.drop 9) (lawEnv L fa cd)) Q E s') : wpAny (model prog w) A (execs (lawBody.drop 8) (lawEnv L fa cd)) Q E s := by
  show wpAny _ _ (execs (_ :: _) _) _ _ _
  (repeat cell_call)
  refine span_ (by assumption) (hm.mono (by decide)) tf k0 k2 fun a F' ws s1 g ha hws S1 => ?_
  refine stL S1 (fun s2 S2 => ?_) rfl rfl
  exact hk a ws F' _ s2 g ha hws (fun y hy => if_neg hy) (if_pos rfl) S2
set_option maxHeartbeats 2000000 in
theorem law9 {L fa pl pr sh T d : Addr} {cd lov miv hiv : Value} {xs ps : List Value} {lo mi hi : Int} {m : Str → Option Value} {b : Bool} {tw : Tok} {tb : List (Int × Value)} {h : Nat} {t : Tr h} {kvs : List (Str × Value)} {n : Nat} {Q : Flow → Shared → Prop} (hm : Rm A 70) (tf : TreeF prog w F b sh T tb h t d kvs n) (k0 : RawK b lo lov) (k1 : RawK b mi miv) (k2 : RawK b hi hiv) (m3 : m (Str.ofString "pairs") = some (.ref pr)) (hpr : Has F pr (ListO ps)) (hps : Al (PairF F b) (flat h t) ps) {wl : Addr} {ws : List Value} (m4 : m (Str.ofString "whole") = some (.ref wl)) (hwl : Has F wl (ListO ws)) (hws : Al (PairF F b) (flt lo hi (flat h t)) ws)
    (S : At (hd.heap_1 P) s₀ X F ((L, NsO m) :: (L + 1 + 1 + 1 + 1 + 1, CellO (some hiv)) :: (L + 1 + 1 + 1 + 1, CellO (some miv)) :: (L + 1 + 1 + 1, CellO (some lov)) :: (L + 1 + 1, CellO (some (.str (wordS b) tw))) :: (L + 1, CellO (some (.ref pl))) :: (pl, ListO xs) :: N) s)
    (hk : ∀ s', At (hd.heap_1 P) s₀ X F ((L, NsO m) :: (L + 1 + 1 + 1 + 1 + 1, CellO (some hiv)) :: (L + 1 + 1 + 1 + 1, CellO (some miv)) :: (L + 1 + 1 + 1, CellO (some lov)) :: (L + 1 + 1, CellO (some (.str (wordS b) tw))) :: (L + 1, CellO (some (.ref pl))) :: (pl, ListO xs) :: N) s' → wpAny (model prog w) A (execs (lawBody.drop 10) (lawEnv L fa cd)) Q E s') : wpAny (model prog w) A (execs (lawBody.drop 9) (lawEnv L fa cd)) Q E s := by
  show wpAny _ _ (execs (_ :: _) _) _ _ _
  (repeat cell_call)
  refine compE0 (K := hd.heap_1 P) (X := X) (s₀ := s₀) (by exact rfl) (by decide) rfl (by decide) (by exact rfl) ?_
  (repeat cell_call)
  refine iterL (by assumption) (.inr hpr) fun it s2 hit S2 => ?_
  have hpl := hps.length
  have hfl := tf.fl
  refine ⟨it, _, ps.length, _, _, F, _, fun i F' ys => F' = F ∧ Al (PairF F b) (flt lo hi ((flat h t).take i)) ys, rfl, srcL (xs := ps) hm.h hit, small_sizeLine (by lia), S2, ⟨rfl, .nil⟩, fun i F' ys N' hI hN => .inr (hI.1 ▸ hpr), ?_, ?_⟩
  · rintro i F' ys u mc C acc s3 hii hu ⟨rfl, hys⟩ S3
    obtain ⟨x, hx, hxp⟩ := hps.get' hu
    have hxp' := hxp
    obtain ⟨pa, pk, pt, rfl, hpt, hpk⟩ := hxp'
    refine ifs1 ?_
    have ef : flt lo hi (List.take (i + 1) (flat h t)) = if (decide (lo ≤ 3 * (x : Int)) && decide (3 * (x : Int) ≤ hi)) = true then flt lo hi (List.take i (flat h t)) ++ [x] else flt lo hi (List.take i (flat h t)) := filter_take_succ hx
    (repeat cell_call)
    refine test_link ?_
    (repeat cell_call)
    refine subT (by assumption) (.inr hpt) (by decide) (by decide) rfl ?_ rfl
    refine leK k0 hpk ?_
    by_cases c1 : lo ≤ 3 * (x : Int)
    · rw [decide_eq_true c1] at ef ⊢
      (repeat cell_call)
      refine test_last ?_
      (repeat cell_call)
      refine leK hpk k2 ?_
      by_cases c2 : 3 * (x : Int) ≤ hi
      · rw [decide_eq_true c2] at ef ⊢
        (repeat cell_call)
        refine ⟨F', _, ⟨rfl, ?_⟩, by assumption⟩
        rw [ef]
        exact hys.snoc hxp
      · rw [decide_eq_false c2] at ef ⊢
        (repeat cell_call)
        refine ⟨F', _, ⟨rfl, ?_⟩, by assumption⟩
        rw [ef]
        exact hys
    · rw [decide_eq_false c1] at ef ⊢
      (repeat cell_call)
      refine ⟨F', _, ⟨rfl, ?_⟩, by assumption⟩
      rw [ef]
      exact hys
  · rintro F' ys acc s3 ⟨rfl, hys⟩ hlen hacc S3
    rw [List.take_of_length_le (by lia)] at hys
    refine pairsNe S3 (.inr hwl) (.inl (.head _)) hws hys hm.pu ?_
    refine wpAny_truthy_bool ?_
    refine itF ?_
    refine wpAny_execs_nil ?_
    exact hk s3 S3.tail
end

-- D7
section
variable {prog : Program} {w : World} {A : Around} {P : Params} {s₀ s : Shared} {X : List Addr} {F : Fz} {N : Led} {E : Value → Shared → Prop} {K : Frag}
set_option maxHeartbeats 2000000 in
theorem law10 {L fa pl pr sh T d : Addr} {cd lov miv hiv : Value} {xs ps : List Value} {lo mi hi : Int} {m : Str → Option Value} {b : Bool} {tw : Tok} {tb : List (Int × Value)} {h : Nat} {t : Tr h} {kvs : List (Str × Value)} {n : Nat} {Q : Flow → Shared → Prop} (hm : Rm A 70) (tf : TreeF prog w F b sh T tb h t d kvs n) (m1 : m (Str.ofString "shelf") = some (.ref sh)) (m2 : m (Str.ofString "root") = some (.ref d)) (m3 : m (Str.ofString "pairs") = some (.ref pr)) (hpr : Has F pr (ListO ps)) (hps : Al (PairF F b) (flat h t) ps)
    (S : At (hd.heap_1 P) s₀ X F ((L, NsO m) :: (L + 1 + 1 + 1 + 1 + 1, CellO (some hiv)) :: (L + 1 + 1 + 1 + 1, CellO (some miv)) :: (L + 1 + 1 + 1, CellO (some lov)) :: (L + 1 + 1, CellO (some (.str (wordS b) tw))) :: (L + 1, CellO (some (.ref pl))) :: (pl, ListO xs) :: N) s)
    (hk : ∀ F' s', Grow s₀.heap.objs.size F F' → At (hd.heap_1 P) s₀ X F' ((L, NsO m) :: (L + 1 + 1 + 1 + 1 + 1, CellO (some hiv)) :: (L + 1 + 1 + 1 + 1, CellO (some miv)) :: (L + 1 + 1 + 1, CellO (some lov)) :: (L + 1 + 1, CellO (some (.str (wordS b) tw))) :: (L + 1, CellO (some (.ref pl))) :: (pl, ListO xs) :: N) s' → wpAny (model prog w) A (execs (lawBody.drop 11) (lawEnv L fa cd)) Q E s') : wpAny (model prog w) A (execs (lawBody.drop 10) (lawEnv L fa cd)) Q E s := by
  show wpAny _ _ (execs (_ :: _) _) _ _ _
  (repeat cell_call)
  refine law_key_ (n := 0) (by assumption) (hm.mono (by decide)) (by decide) fun ka s1 hka S1 => ?_
  (repeat cell_call)
  refine law_key_ (n := 20) (by assumption) (hm.mono (by decide)) (by decide) fun kb s2 hkb S2 => ?_
  (repeat cell_call)
  refine span_ (by assumption) (hm.mono (by decide)) tf hka hkb fun a F' ws s3 g ha hws S3 => ?_
  (repeat cell_call)
  rw [show flt (3 * ((0 : Nat) : Int)) (3 * ((20 : Nat) : Int)) (flat h t) = flat h t from flt_all tf.f20] at hws
  refine pairsNe (by assumption) (.inr ha) (.inr (hpr.mono g.1)) hws (hps.mono fun _ _ z => PairF.mono z g.1) hm.pu ?_
  refine wpAny_truthy_bool ?_
  refine itF ?_
  refine wpAny_execs_nil ?_
  exact hk F' _ g (by assumption)
set_option maxHeartbeats 2000000 in
theorem law11 {L fa pl pr sh T d : Addr} {cd lov miv hiv : Value} {xs ps : List Value} {lo mi hi : Int} {m : Str → Option Value} {b : Bool} {tw : Tok} {tb : List (Int × Value)} {h : Nat} {t : Tr h} {kvs : List (Str × Value)} {n : Nat} {Q : Flow → Shared → Prop} (hm : Rm A 70) (m3 : m (Str.ofString "pairs") = some (.ref pr)) (hpr : Has F pr (ListO ps)) (hps : Al (PairF F b) (flat h t) ps) (hp : PoolOK xs) (hne : flat h t ≠ []) (hfl : (flat h t).length ≤ 13)
    (S : At (hd.heap_1 P) s₀ X F ((L, NsO m) :: (L + 1 + 1 + 1 + 1 + 1, CellO (some hiv)) :: (L + 1 + 1 + 1 + 1, CellO (some miv)) :: (L + 1 + 1 + 1, CellO (some lov)) :: (L + 1 + 1, CellO (some (.str (wordS b) tw))) :: (L + 1, CellO (some (.ref pl))) :: (pl, ListO xs) :: N) s)
    (hk : ∀ v n0 xs' m' s', PoolOK xs' → n0 ∈ flat h t → PairF F b n0 v → (∀ y, y ≠ Str.ofString "own" → m' y = m y) → m' (Str.ofString "own") = some v → At (hd.heap_1 P) s₀ X F ((L, NsO m') :: (L + 1 + 1 + 1 + 1 + 1, CellO (some hiv)) :: (L + 1 + 1 + 1 + 1, CellO (some miv)) :: (L + 1 + 1 + 1, CellO (some lov)) :: (L + 1 + 1, CellO (some (.str (wordS b) tw))) :: (L + 1, CellO (some (.ref pl))) :: (pl, ListO xs') :: N) s' → wpAny (model prog w) A (execs (lawBody.drop 12) (lawEnv L fa cd)) Q E s') : wpAny (model prog w) A (execs (lawBody.drop 11) (lawEnv L fa cd)) Q E s := by
  show wpAny _ _ (execs (_ :: _) _) _ _ _
  (repeat cell_call)
  have hpl := hps.length
  have hpos : 0 < (flat h t).length := List.length_pos_iff.mpr hne
  rename_i S1
  have S1 := S1.up 6 rfl
  (dsimp only [List.eraseIdx, List.take, List.drop, List.cons_append, List.nil_append, List.set] at S1)
  refine law_take_ (many := 13) S1 (hm.mono (by decide)) hp (by decide) (by decide) fun k1 t1 xs1 s2 hk1 hp1 S2 => ?_
  have S2 := S2.down 6
  (dsimp only [List.eraseIdx, List.take, List.drop, List.cons_append, List.nil_append, List.set] at S2)
  (repeat cell_call)
  refine lenL (by assumption) (.inr hpr) (by lia) ?_
  intro _ _ _
  (repeat cell_call)
  refine modI (by assumption) (by lia) ?_
  intro _ _ _
  have hlt : k1 % ps.length < ps.length := Nat.mod_lt _ (by lia)
  obtain ⟨x, hx, hxp⟩ := hps.get' (List.getElem?_eq_getElem hlt)
  have e1 : (k1 : Int) % (ps.length : Int) = ((k1 % ps.length : Nat) : Int) := (Int.natCast_emod _ _).symm
  rw [e1]
  refine subL (v := ps[k1 % ps.length]) (by assumption) (.inr hpr) (by lia) (by lia) (by rw [Int.toNat_natCast]; exact List.getElem?_eq_getElem hlt) ?_ rfl
  refine stL (by assumption) (fun s3 S3 => ?_) rfl rfl
  exact hk _ x xs1 _ s3 hp1 (List.mem_of_getElem? hx) hxp (fun y hy => if_neg hy) (if_pos rfl) S3
set_option maxHeartbeats 2000000 in
theorem law12 {L fa pl pr sh T d : Addr} {cd lov miv hiv : Value} {xs ps : List Value} {lo mi hi : Int} {m : Str → Option Value} {b : Bool} {tw : Tok} {tb : List (Int × Value)} {h : Nat} {t : Tr h} {kvs : List (Str × Value)} {n : Nat} {Q : Flow → Shared → Prop} (hm : Rm A 70) (tf : TreeF prog w F b sh T tb h t d kvs n) (m1 : m (Str.ofString "shelf") = some (.ref sh)) (m2 : m (Str.ofString "root") = some (.ref d)) {ov : Value} {n0 : Nat} (m5 : m (Str.ofString "own") = some ov) (hn0 : n0 ∈ flat h t) (hov : PairF F b n0 ov)
    (S : At (hd.heap_1 P) s₀ X F ((L, NsO m) :: (L + 1 + 1 + 1 + 1 + 1, CellO (some hiv)) :: (L + 1 + 1 + 1 + 1, CellO (some miv)) :: (L + 1 + 1 + 1, CellO (some lov)) :: (L + 1 + 1, CellO (some (.str (wordS b) tw))) :: (L + 1, CellO (some (.ref pl))) :: (pl, ListO xs) :: N) s)
    (hk : ∀ F' s', Grow s₀.heap.objs.size F F' → At (hd.heap_1 P) s₀ X F' ((L, NsO m) :: (L + 1 + 1 + 1 + 1 + 1, CellO (some hiv)) :: (L + 1 + 1 + 1 + 1, CellO (some miv)) :: (L + 1 + 1 + 1, CellO (some lov)) :: (L + 1 + 1, CellO (some (.str (wordS b) tw))) :: (L + 1, CellO (some (.ref pl))) :: (pl, ListO xs) :: N) s' → wpAny (model prog w) A (execs (lawBody.drop 13) (lawEnv L fa cd)) Q E s') : wpAny (model prog w) A (execs (lawBody.drop 12) (lawEnv L fa cd)) Q E s := by
  show wpAny _ _ (execs (_ :: _) _) _ _ _
  (repeat cell_call)
  have hov' := hov
  obtain ⟨pa, pk, pt, rfl, hpt, hpk⟩ := hov'
  refine subT (by assumption) (.inr hpt) (by decide) (by decide) rfl ?_ rfl
  (repeat cell_call)
  refine subT (by assumption) (.inr hpt) (by decide) (by decide) rfl ?_ rfl
  (repeat cell_call)
  refine span_ (by assumption) (hm.mono (by decide)) tf hpk hpk fun a F' ws s3 g ha hws S3 => ?_
  (repeat cell_call)
  refine mkList (by assumption) (by (exact small_sizeLine (by simp))) fun l s4 hl S4 => ?_
  rw [flt_one tf.srt hn0] at hws
  refine pairsNe S4 (.inr ha) (.inl (.head _)) hws (.cons (hov.mono g.1) .nil) hm.pu ?_
  refine wpAny_truthy_bool ?_
  refine itF ?_
  refine wpAny_execs_nil ?_
  exact hk F' _ g S4.tail
set_option maxHeartbeats 2000000 in
theorem law13 {L fa pl pr sh T d : Addr} {cd lov miv hiv : Value} {xs ps : List Value} {lo mi hi : Int} {m : Str → Option Value} {b : Bool} {tw : Tok} {tb : List (Int × Value)} {h : Nat} {t : Tr h} {kvs : List (Str × Value)} {n : Nat} {Q : Flow → Shared → Prop} (hm : Rm A 70) (tf : TreeF prog w F b sh T tb h t d kvs n) (k0 : RawK b lo lov) (k1 : RawK b mi miv) (k2 : RawK b hi hiv) (m1 : m (Str.ofString "shelf") = some (.ref sh)) (m2 : m (Str.ofString "root") = some (.ref d))
    (S : At (hd.heap_1 P) s₀ X F ((L, NsO m) :: (L + 1 + 1 + 1 + 1 + 1, CellO (some hiv)) :: (L + 1 + 1 + 1 + 1, CellO (some miv)) :: (L + 1 + 1 + 1, CellO (some lov)) :: (L + 1 + 1, CellO (some (.str (wordS b) tw))) :: (L + 1, CellO (some (.ref pl))) :: (pl, ListO xs) :: N) s)
    (hk : ∀ F' s', Grow s₀.heap.objs.size F F' → At (hd.heap_1 P) s₀ X F' ((L, NsO m) :: (L + 1 + 1 + 1 + 1 + 1, CellO (some hiv)) :: (L + 1 + 1 + 1 + 1, CellO (some miv)) :: (L + 1 + 1 + 1, CellO (some lov)) :: (L + 1 + 1, CellO (some (.str (wordS b) tw))) :: (L + 1, CellO (some (.ref pl))) :: (pl, ListO xs) :: N) s' → wpAny (model prog w) A (execs (lawBody.drop 14) (lawEnv L fa cd)) Q E s') : wpAny (model prog w) A (execs (lawBody.drop 13) (lawEnv L fa cd)) Q E s := by
  show wpAny _ _ (execs (_ :: _) _) _ _ _
  (repeat cell_call)
  refine ltK k0 k2 ?_
  by_cases c : lo < hi
  · rw [decide_eq_true c]
    (repeat cell_call)
    refine span_ (by assumption) (hm.mono (by decide)) tf k2 k0 fun a F' ws s3 g ha hws S3 => ?_
    (repeat cell_call)
    refine mkList (by assumption) (by (exact small_sizeLine (by simp))) fun l s4 hl S4 => ?_
    rw [flt_none c] at hws
    refine pairsNe (b := b) S4 (.inr ha) (.inl (.head _)) hws .nil hm.pu ?_
    refine wpAny_truthy_bool ?_
    refine itF ?_
    refine wpAny_execs_nil ?_
    exact hk F' _ g S4.tail
  · rw [decide_eq_false c]
    refine wpAny_truthy_bool ?_
    refine itF ?_
    refine wpAny_execs_nil ?_
    exact hk F _ (Grow.refl _ _) (by assumption)
set_option maxHeartbeats 2000000 in
theorem law14 {L fa pl pr sh T d : Addr} {cd lov miv hiv : Value} {xs ps : List Value} {lo mi hi : Int} {m : Str → Option Value} {b : Bool} {tw : Tok} {tb : List (Int × Value)} {h : Nat} {t : Tr h} {kvs : List (Str × Value)} {n : Nat} {Q : Flow → Shared → Prop} (hm : Rm A 70) (tf : TreeF prog w F b sh T tb h t d kvs n) (k0 : RawK b lo lov) (k1 : RawK b mi miv) (k2 : RawK b hi hiv) (m1 : m (Str.ofString "shelf") = some (.ref sh)) (m2 : m (Str.ofString "root") = some (.ref d))
    (S : At (hd.heap_1 P) s₀ X F ((L, NsO m) :: (L + 1 + 1 + 1 + 1 + 1, CellO (some hiv)) :: (L + 1 + 1 + 1 + 1, CellO (some miv)) :: (L + 1 + 1 + 1, CellO (some lov)) :: (L + 1 + 1, CellO (some (.str (wordS b) tw))) :: (L + 1, CellO (some (.ref pl))) :: (pl, ListO xs) :: N) s)
    (hk : ∀ wl ws F' m' s', Grow s₀.heap.objs.size F F' → Has F' wl (ListO ws) → Al (PairF F' b) (flt lo mi (flat h t)) ws → (∀ y, y ≠ Str.ofString "first" → m' y = m y) → m' (Str.ofString "first") = some (.ref wl) → At (hd.heap_1 P) s₀ X F' ((L, NsO m') :: (L + 1 + 1 + 1 + 1 + 1, CellO (some hiv)) :: (L + 1 + 1 + 1 + 1, CellO (some miv)) :: (L + 1 + 1 + 1, CellO (some lov)) :: (L + 1 + 1, CellO (some (.str (wordS b) tw))) :: (L + 1, CellO (some (.ref pl))) :: (pl, ListO xs) :: N) s' → wpAny (model prog w) A (execs (lawBody.drop 15) (lawEnv L fa cd)) Q E s') : wpAny (model prog w) A (execs (lawBody.drop 14) (lawEnv L fa cd)) Q E s := by
  show wpAny _ _ (execs (_ :: _) _) _ _ _
  (repeat cell_call)
  refine span_ (by assumption) (hm.mono (by decide)) tf k0 k1 fun a F' ws s1 g ha hws S1 => ?_
  refine stL S1 (fun s2 S2 => ?_) rfl rfl
  exact hk a ws F' _ s2 g ha hws (fun y hy => if_neg hy) (if_pos rfl) S2
set_option maxHeartbeats 2000000 in
theorem law15 {L fa pl pr sh T d : Addr} {cd lov miv hiv : Value} {xs ps : List Value} {lo mi hi : Int} {m : Str → Option Value} {b : Bool} {tw : Tok} {tb : List (Int × Value)} {h : Nat} {t : Tr h} {kvs : List (Str × Value)} {n : Nat} {Q : Flow → Shared → Prop} (hm : Rm A 70) (tf : TreeF prog w F b sh T tb h t d kvs n) (k0 : RawK b lo lov) (k1 : RawK b mi miv) (k2 : RawK b hi hiv) (m1 : m (Str.ofString "shelf") = some (.ref sh)) (m2 : m (Str.ofString "root") = some (.ref d))
    (S : At (hd.heap_1 P) s₀ X F ((L, NsO m) :: (L + 1 + 1 + 1 + 1 + 1, CellO (some hiv)) :: (L + 1 + 1 + 1 + 1, CellO (some miv)) :: (L + 1 + 1 + 1, CellO (some lov)) :: (L + 1 + 1, CellO (some (.str (wordS b) tw))) :: (L + 1, CellO (some (.ref pl))) :: (pl, ListO xs) :: N) s)
    (hk : ∀ wl ws F' m' s', Grow s₀.heap.objs.size F F' → Has F' wl (ListO ws) → Al (PairF F' b) ((flt mi hi (flat h t)).filter fun n : Nat => decide (3 * (n : Int) ≠ mi)) ws → (∀ y, y ≠ Str.ofString "second" → m' y = m y) → m' (Str.ofString "second") = some (.ref wl) → At (hd.heap_1 P) s₀ X F' ((L, NsO m') :: (L + 1 + 1 + 1 + 1 + 1, CellO (some hiv)) :: (L + 1 + 1 + 1 + 1, CellO (some miv)) :: (L + 1 + 1 + 1, CellO (some lov)) :: (L + 1 + 1, CellO (some (.str (wordS b) tw))) :: (L + 1, CellO (some (.ref pl))) :: (pl, ListO xs) :: N) s' → wpAny (model prog w) A (execs (lawBody.drop 16) (lawEnv L fa cd)) Q E s') : wpAny (model prog w) A (execs (lawBody.drop 15) (lawEnv L fa cd)) Q E s := by
  show wpAny _ _ (execs (_ :: _) _) _ _ _
  (repeat cell_call)
  refine compA0 (K := hd.heap_1 P) (X := X) (s₀ := s₀) rfl (by exact rfl) (by decide) rfl (by decide) (by exact rfl) (by exact rfl) (by exact rfl) ?_
  (repeat cell_call)
  refine span_ (by assumption) (hm.mono (by decide)) tf k1 k2 fun a F1 qs s1 g1 ha hqs S1 => ?_
  refine iterL S1 (.inr ha) fun it s2 hit S2 => ?_
  have hql := hqs.length
  have hfl := flt_len (lo := mi) (hi := hi) (flat h t)
  have hf13 := tf.fl
  refine ⟨it, _, qs.length, _, _, F1, m, _, fun i F' ys => F' = F1 ∧ Al (PairF F1 b) (((flt mi hi (flat h t)).take i).filter fun n : Nat => decide (3 * (n : Int) ≠ mi)) ys, rfl, srcL (xs := qs) hm.h hit, small_sizeLine (by lia), S2, ⟨rfl, .nil⟩, fun i F' ys N' hI hN => .inr (hI.1 ▸ ha), ?_, ?_⟩
  · rintro i F' ys u mc C acc s3 hii hu ⟨rfl, hys⟩ S3
    obtain ⟨x, hx, hxp⟩ := hqs.get' hu
    have hxp' := hxp
    obtain ⟨pa, pk, pt, rfl, hpt, hpk⟩ := hxp'
    refine ifs1 ?_
    have ef : ((flt mi hi (flat h t)).take (i + 1)).filter (fun n : Nat => decide (3 * (n : Int) ≠ mi)) = if decide (3 * (x : Int) ≠ mi) = true then ((flt mi hi (flat h t)).take i).filter (fun n : Nat => decide (3 * (n : Int) ≠ mi)) ++ [x] else ((flt mi hi (flat h t)).take i).filter (fun n : Nat => decide (3 * (n : Int) ≠ mi)) := filter_take_succ hx
    (repeat cell_call)
    refine subT (by assumption) (.inr hpt) (by decide) (by decide) rfl ?_ rfl
    (repeat cell_call)
    refine neK hpk k1 ?_
    by_cases c1 : 3 * (x : Int) ≠ mi
    · rw [decide_eq_true c1] at ef ⊢
      (repeat cell_call)
      refine ⟨F', _, ⟨rfl, ?_⟩, by assumption⟩
      rw [ef]
      exact hys.snoc hxp
    · rw [decide_eq_false c1] at ef ⊢
      (repeat cell_call)
      refine ⟨F', _, ⟨rfl, ?_⟩, by assumption⟩
      rw [ef]
      exact hys
  · rintro F' ys acc s5 ⟨rfl, hys⟩ hlen hacc S5
    obtain ⟨o, po, hfa, gr, S6⟩ := S5.swap.freeze hacc
    rw [List.take_of_length_le (by lia)] at hys
    exact hk acc ys _ (fun z => if z = Str.ofString "second" then some (Value.ref acc) else m z) _ (g1.trans gr (Nat.le_refl _)) ⟨o, Fz.add_self _ _ _, po⟩ (hys.mono fun _ _ hp => hp.mono gr.1) (fun y hy => if_neg hy) (if_pos rfl) S6
set_option maxHeartbeats 2000000 in
theorem law16 {L fa pl pr sh T d : Addr} {cd lov miv hiv : Value} {xs ps : List Value} {lo mi hi : Int} {m : Str → Option Value} {b : Bool} {tw : Tok} {tb : List (Int × Value)} {h : Nat} {t : Tr h} {kvs : List (Str × Value)} {n : Nat} {Q : Flow → Shared → Prop} (hm : Rm A 70) (tf : TreeF prog w F b sh T tb h t d kvs n) (h01 : lo ≤ mi) (h12 : mi ≤ hi) {wl fl sl : Addr} {ws fs ss : List Value} (m4 : m (Str.ofString "whole") = some (.ref wl)) (m5 : m (Str.ofString "first") = some (.ref fl)) (m6 : m (Str.ofString "second") = some (.ref sl)) (hwl : Has F wl (ListO ws)) (hfl : Has F fl (ListO fs)) (hsl : Has F sl (ListO ss)) (hws : Al (PairF F b) (flt lo hi (flat h t)) ws) (hfs : Al (PairF F b) (flt lo mi (flat h t)) fs) (hss : Al (PairF F b) ((flt mi hi (flat h t)).filter fun n : Nat => decide (3 * (n : Int) ≠ mi)) ss)
    (S : At (hd.heap_1 P) s₀ X F ((L, NsO m) :: (L + 1 + 1 + 1 + 1 + 1, CellO (some hiv)) :: (L + 1 + 1 + 1 + 1, CellO (some miv)) :: (L + 1 + 1 + 1, CellO (some lov)) :: (L + 1 + 1, CellO (some (.str (wordS b) tw))) :: (L + 1, CellO (some (.ref pl))) :: (pl, ListO xs) :: N) s)
    (hk : ∀ s', At (hd.heap_1 P) s₀ X F ((L, NsO m) :: (L + 1 + 1 + 1 + 1 + 1, CellO (some hiv)) :: (L + 1 + 1 + 1 + 1, CellO (some miv)) :: (L + 1 + 1 + 1, CellO (some lov)) :: (L + 1 + 1, CellO (some (.str (wordS b) tw))) :: (L + 1, CellO (some (.ref pl))) :: (pl, ListO xs) :: N) s' → wpAny (model prog w) A (execs (lawBody.drop 17) (lawEnv L fa cd)) Q E s') : wpAny (model prog w) A (execs (lawBody.drop 16) (lawEnv L fa cd)) Q E s := by
  show wpAny _ _ (execs (_ :: _) _) _ _ _
  (repeat cell_call)
  have hj := hfs.append hss
  rw [flt_join h01 h12 tf.srt] at hj
  have hjl := hj.length
  have hf13 := tf.fl
  have hfl' := flt_len (lo := lo) (hi := hi) (flat h t)
  rw [List.length_append] at hjl
  refine addL (by assumption) (.inr hfl) (.inr hsl) (by lia) fun c s2 hc S2 => ?_
  have S2 := S2.swap
  (repeat cell_call)
  refine pairsNe S2 (.inl (.tail _ (.head _))) (.inr hwl) hj hws hm.pu ?_
  refine wpAny_truthy_bool ?_
  refine itF ?_
  refine wpAny_execs_nil ?_
  exact hk _ S2.swap.tail
end

-- D8
def loopFn := (⟨_, _, _, _, _, _, rfl⟩ : Σ' (body : List PySem.Stmt) (tg ip : PySem.Expr) (els : List PySem.Stmt) (ps : Pos) (r : List PySem.Stmt), lawBody.drop 17 = .For tg ip body els ps :: r)
abbrev loopBody : List PySem.Stmt := loopFn.1
def dmFn := (⟨_, _, _, _, rfl⟩ : Σ' (body : List PySem.Stmt) (t : PySem.Expr) (els : List PySem.Stmt) (ps : Pos), loopBody.drop 2 = [.If t body els ps])
abbrev dmBody : List PySem.Stmt := dmFn.1
/-- a leaf all of whose keys lie outside -/
def Dead (lo hi : Int) (ns : List Nat) : Prop := ∃ r1 r2 : Nat, ns.head? = some r1 ∧ ns.getLast? = some r2 ∧ (3 * (r2 : Int) < lo ∨ hi < 3 * (r1 : Int))
theorem apart {nss : List (List Nat)} (hn : nss.flatten.Nodup) {i : Nat} {ns : List Nat} (hi : nss[i]? = some ns) (hm : ns ∈ nss.take i) (hne : ns ≠ []) : False := by
  obtain ⟨h1, h2⟩ := List.pairwise_flatten.mp hn
  obtain ⟨j, hj⟩ := List.mem_iff_getElem?.mp hm
  rw [List.getElem?_take] at hj
  split at hj
  · rename_i hlt
    obtain ⟨hi', rfl⟩ := List.getElem?_eq_some_iff.mp hi
    obtain ⟨hj', e⟩ := List.getElem?_eq_some_iff.mp hj
    have := (List.pairwise_iff_getElem.mp h2) j i hj' hi' hlt
    rw [e] at this
    obtain ⟨x, hx⟩ := List.exists_mem_of_ne_nil _ hne
    exact this x hx x hx rfl
  · cases hj
theorem Has.del {F : Fz} {a c : Addr} {P Q : OP} (ha : Has F a P) (hP : ∀ o, P o → o.cls = .type "dict") (h : Has F c Q) (hQ : ∀ o, Q o → o.cls ≠ .type "dict") : Has (F.del a) c Q := by
  obtain ⟨o, e, q⟩ := h
  refine ⟨o, ?_, q⟩
  unfold Fz.del
  rw [if_neg, e]
  rintro rfl
  obtain ⟨o', e', p'⟩ := ha
  rw [e] at e'
  cases e'
  exact hQ _ q (hP _ p')
theorem mem_take_succ {α : Type} {l : List α} {i : Nat} {x : α} (h : l[i]? = some x) : x ∈ l.take (i + 1) := by
  rw [take_snoc h]; simp
theorem Dam.next {prog : Program} {w : World} {F₀ F : Fz} {b : Bool} {dead : List Nat → Prop} {nss : List (List Nat)} {i : Nat} {tb0 tb : List (Int × Value)} (hd : Dam prog w F₀ F b (fun ns => dead ns ∧ ns ∈ nss.take i) tb0 tb) : Dam prog w F₀ F b (fun ns => dead ns ∧ ns ∈ nss.take (i + 1)) tb0 tb :=
  hd.weak fun _ a8 => ⟨a8.1, (List.take_sublist_take_left (Nat.le_succ i)).subset a8.2⟩
theorem Dam.put {prog : Program} {w : World} {F₀ F F' : Fz} {b : Bool} {dead : List Nat → Prop} {nss : List (List Nat)} {i : Nat} {tb0 tb : List (Int × Value)} (hd : Dam prog w F₀ F b (fun ns => dead ns ∧ ns ∈ nss.take i) tb0 tb) (l : F.le F') {ns : List Nat} {k : Int} {e d e' d' li : Addr} {t0 t' : Tok} {kvs kvs' : List (Str × Value)} {xs : List Value}
    (a1 : valueAt tb0 k = some (.ref e)) (a2 : Has F₀ e (TupO [.int 0 t0, .ref d])) (a3 : HasD prog w F₀ d kvs) (a4 : valueAt kvs kS = none) (a5 : valueAt kvs (wordS b) = some (.ref li)) (a6 : Has F₀ li (ListO xs)) (a7 : RowF F₀ b ns xs) (a8 : dead ns) (hns : nss[i]? = some ns)
    (b1 : Has F' e' (TupO [.int 0 t', .ref d'])) (b2 : HasD prog w F' d' kvs') (b3 : valueAt kvs' kS = none) (b4 : valueAt kvs' (Str.ofString "Limits") = valueAt kvs (Str.ofString "Limits")) :
    Dam prog w F₀ F' b (fun ns => dead ns ∧ ns ∈ nss.take (i + 1)) tb0 (stored tb k (.ref e')) := fun k' x hx => by
  by_cases c : k' = k
  · subst c
    rw [a1] at hx
    cases hx
    exact .inr ⟨ns, e, d, t0, kvs, e', d', t', kvs', li, xs, rfl, a2, a3, a4, a5, a6, a7, ⟨a8, mem_take_succ hns⟩, by rw [valueAt_stored, if_pos rfl], b1, b2, b3, b4⟩
  · rcases (hd.next.mono l) k' x hx with q | ⟨ns, e, d, t0, kvs, e', d', t', kvs', l', xs, z⟩
    · exact .inl (by rw [valueAt_stored, if_neg c]; exact q)
    · exact .inr ⟨ns, e, d, t0, kvs, e', d', t', kvs', l', xs, ⟨z.a1, z.a2, z.a3, z.a4, z.a5, z.a6, z.a7, z.a8, by rw [valueAt_stored, if_neg c]; exact z.a9, z.b1, z.b2, z.b3, z.b4⟩⟩
theorem Body.end {prog : Program} {w : World} {F₀ F : Fz} {b : Bool} {dead : List Nat → Prop} {tb0 tb : List (Int × Value)} (l : F₀.le F) (hd : Dam prog w F₀ F b dead tb0 tb) {h : Nat} {m : Int} {t : Tr h} {kvs : List (Str × Value)} (hb : Body prog w F₀ tb0 b (fun _ => False) h m t kvs) :
    ∃ dead' : List Nat → Prop, Body prog w F tb b dead' h m t kvs ∧ (∀ ns : List Nat, (⟨h, t⟩ : Σ h, Tr h) = ⟨0, ns⟩ → ¬ dead' ns) ∧ ∀ ns, dead' ns → dead ns := by
  cases h with
  | zero =>
    obtain ⟨a, q⟩ := hb
    rcases q with q | ⟨l', xs, x, y, z⟩
    · exact q.elim
    · exact ⟨fun _ => False, ⟨a, .inr ⟨l', xs, x, y.mono l, z.mono l⟩⟩, fun _ _ h => h, fun _ h => h.elim⟩
  | succ h => exact ⟨dead, hb.dam l hd, fun ns e => (by cases e), fun _ h => h⟩
theorem list_cls {xs : List Value} (o : Obj) (h : ListO xs o) : o.cls ≠ .type "dict" := by
  obtain ⟨n, rfl⟩ := h
  show Value.type "list" ≠ Value.type "dict"
  decide
section
variable {prog : Program} {w : World} {A : Around} {P : Params} {s₀ s : Shared} {X : List Addr} {F : Fz} {N : Led} {E : Value → Shared → Prop} {K : Frag}
theorem dictI_cls {tb : List (Int × Value)} (o : Obj) (h : DictI prog w tb o) : o.cls = .type "dict" := (exactI o h).1
theorem del_add {F : Fz} {a : Addr} {o : Obj} (h : F a = none) : (F.add a o).del a = F := by
  funext c
  unfold Fz.del Fz.add
  by_cases q : c = a
  · rw [if_pos q, q, h]
  · rw [if_neg q, if_neg q]
theorem subSlT {value slice : PySem.Expr} {l sl : Addr} {xs : List Value} {vl vu vs : Value} {lo hi st : Option Int} {Q : Value → Shared → Prop} (S : At K s₀ X F N s) (hl : Here F N l (ListO xs)) (hsl : Here F N sl (SliceO vl vu vs))
    (pl : IsPart vl lo) (pu : IsPart vu hi) (ps : IsPart vs st) (h0 : st ≠ some 0) (hz : xs.length ≤ 100000)
    (h : ∀ a s', s₀.heap.objs.size ≤ a → At K s₀ X F ((a, ListO (slicePick xs.toArray lo hi st).toList) :: N) s' → Q (.ref a) s')
    (hs : subscripted slice false (.ref l) (.ref sl) = operate [.ref l, .ref sl] (getItem (.ref l) (.ref sl))) : wpAny (model prog w) A (subscriptTail value slice (.ref l) (.ref sl)) Q E s := by
  obtain ⟨_, e, rfl⟩ := S.here hsl
  refine tail_any (S.isList hl).typeIs slot_list_getitem.lookup (wpAny_getItem_list_slice (S.isList hl) ⟨_, e, rfl, rfl⟩ pl pu ps h0 ?_ (by rw [List.size_toArray]; exact small_sizeLine hz)) hs
  exact h _ _ S.size (S.push (t := s.toks) ⟨0, by rw [Array.toArray_toList]⟩ rfl)
/-- fetch, where the shelf's table is in the ledger -/
theorem fetch_led {F₀ : Fz} {sh T : Addr} {tb : List (Int × Value)} {v f : Value} {Q : Value → Shared → Prop} (h0 : ∃ h₀, Gl (hd.heap_1 P) h₀ ∧ ∀ b o, h₀.get? b = some o → F₀ b = some o) (l0 : F₀.le F) (S : At (hd.heap_1 P) s₀ X F ((T, DictI prog w tb) :: N) s) (hT : s₀.heap.objs.size ≤ T) (h3 : 3 < T) (hm : Rm A 1)
    (hsh : ∃ tr, InstF F sh 363 [(Str.ofString "table", .ref T), (Str.ofString "trailer", .ref tr)]) (hv : Fet F tb v f) (h : ∀ s', At (hd.heap_1 P) s₀ X F ((T, DictI prog w tb) :: N) s' → Q f s') :
    wpAny (model prog w) A (call (.ref 299) [.ref sh, v]) Q E s := by
  obtain ⟨o, po, hf, gr, S1⟩ := S.freeze hT
  refine fetch_ S1 hm ⟨let ⟨tr, z⟩ := hsh; ⟨tr, z.mono gr.1⟩, ⟨o, Fz.add_self _ _ _, po⟩, h3⟩ (hv.mono gr.1) fun s2 S2 => ?_
  have hF₀ : F₀ T = none := by
    cases q : F₀ T with
    | none => rfl
    | some x => rw [l0 _ _ q] at hf; cases hf
  have S3 := S2.thaw h0 hF₀ (l0.trans gr.1) ⟨o, Fz.add_self _ _ _, po⟩ hT
  rw [del_add hf] at S3
  exact h s2 S3
set_option maxHeartbeats 4000000 in
theorem lawDam {F₀ : Fz} {L fa pl sh T it e d1 l li : Addr} {PI : OP} {cd lov miv hiv v : Value} {xs rxs : List Value} {lo hi k : Int} {m : Str → Option Value} {b : Bool} {tw t0 : Tok} {tb0 tb : List (Int × Value)} {kvs1 : List (Str × Value)} {nss : List (List Nat)} {ns : List Nat} {i : Nat} {Q : Flow → Shared → Prop} (hm : Rm A 70)
    (l0 : F₀.le F) (hsh : ∃ tr, InstF F₀ sh 363 [(Str.ofString "table", .ref T), (Str.ofString "trailer", .ref tr)])
    (m1 : m (Str.ofString "shelf") = some (.ref sh)) (m2 : m (Str.ofString "leaf") = some v) (m3 : m (Str.ofString "node") = some (.ref d1))
    (a3 : RefF F₀ v k) (a4 : valueAt tb0 k = some (.ref e)) (a5 : Has F₀ e (TupO [.int 0 t0, .ref d1])) (a6 : HasD prog w F₀ d1 kvs1) (hlim : valueAt kvs1 (Str.ofString "Limits") = some (.ref li)) (hk0 : valueAt kvs1 kS = none) (x1 : valueAt kvs1 (wordS b) = some (.ref l)) (x2 : Has F₀ l (ListO rxs)) (x3 : RowF F₀ b ns rxs) (hde : Dead lo hi ns) (hns : nss[i]? = some ns)
    (hd0 : Dam prog w F₀ F b (fun ns => Dead lo hi ns ∧ ns ∈ nss.take i) tb0 tb) (hz : tb.length ≤ 1000 + i) (hi10 : i ≤ 1000)
    (S : At (hd.heap_1 P) s₀ X F ((L, NsO m) :: (it, PI) :: (L + 1 + 1 + 1 + 1 + 1, CellO (some hiv)) :: (L + 1 + 1 + 1 + 1, CellO (some miv)) :: (L + 1 + 1 + 1, CellO (some lov)) :: (L + 1 + 1, CellO (some (.str (wordS b) tw))) :: (L + 1, CellO (some (.ref pl))) :: (pl, ListO xs) :: (T, DictI prog w tb) :: N) s)
    (hk : ∀ F' tb' s', F.le F' → Dam prog w F₀ F' b (fun ns => Dead lo hi ns ∧ ns ∈ nss.take (i + 1)) tb0 tb' → tb'.length ≤ 1000 + (i + 1) →
      At (hd.heap_1 P) s₀ X F' ((L, NsO m) :: (it, PI) :: (L + 1 + 1 + 1 + 1 + 1, CellO (some hiv)) :: (L + 1 + 1 + 1 + 1, CellO (some miv)) :: (L + 1 + 1 + 1, CellO (some lov)) :: (L + 1 + 1, CellO (some (.str (wordS b) tw))) :: (L + 1, CellO (some (.ref pl))) :: (pl, ListO xs) :: (T, DictI prog w tb') :: N) s' → Q .next s') : wpAny (model prog w) A (execs dmBody (lawEnv L fa cd)) Q E s := by
  show wpAny _ _ (execs (_ :: _) _) _ _ _
  obtain ⟨tr, hsi⟩ := hsh
  (repeat cell_call)
  ((refine' dictE ?Sq556 ?haq556 ?hlq556 ?h0q556 ?hnq556 ?_; (case Sq556 => assumption); (case haq556 => exact rfl); (case hlq556 => exact rfl); (case h0q556 => simp); (case hnq556 => decide)))
  intro a s4 ha h3 S4
  have S4 := S4.swap
  refine pairTrees_cons_walk ?_
  (repeat cell_call)
  refine subDS (by assumption) (.inr (a6.h.mono l0)) hlim ?_ rfl
  intro _ _
  refine pairTrees_cons_walk ?_
  (repeat cell_call)
  refine pairTrees_nil_walk ?_
  rename_i t5 _ S8
  refine ⟨[(Str.ofString "Limits", .ref li), (wordS b, .int 5 t5)], _, _, ⟨strKind_is _ _ _ _, rfl, strKind_is _ _ _ _, rfl, trivial⟩, S8.swap, fun s9 S9 => ?_⟩
  rw [merged2 (wordS_ne b)] at S9
  obtain ⟨o5, po5, hf5, gr5, S10⟩ := S9.freeze ha
  (repeat cell_call)
  refine mkTup (by assumption) (by (exact small_sizeLine (by simp))) fun te s11 hte S11 => ?_
  obtain ⟨o6, po6, hf6, gr6, S12⟩ := S11.freeze hte
  have gg := gr5.1.trans gr6.1
  (repeat cell_call)
  refine atGet (by assumption) (hsi.mono (l0.trans gg)).inst rfl (by k_is) (by k_is) (by k_is) rfl ?_
  intro _ _
  obtain ⟨r, ta, tc, rfl, hr⟩ := id a3
  (repeat cell_call)
  refine atGet (by assumption) (hr.mono (l0.trans gg)).inst rfl (by k_is) (by k_is) (by k_is) rfl ?_
  intro _ _
  (repeat cell_call)
  refine setDI (i := 8) (by assumption) rfl (by lia) ?_
  intro s13 S13
  (dsimp only [List.eraseIdx, List.take, List.drop, List.cons_append, List.nil_append, List.set] at S13)
  (repeat cell_call)
  have hsl := stored_length_le tb k (.ref te)
  exact hk _ _ s13 gg (hd0.put gg a4 a5 a6 hk0 x1 x2 x3 hde hns ⟨o6, Fz.add_self _ _ _, po6⟩ ⟨h3, Has.mono ⟨o5, Fz.add_self _ _ _, po5⟩ gr6.1⟩ (valueAt2n (by decide +kernel) (wordS_ne' b)) ((valueAt2 (wordS_ne b)).1.trans hlim.symm)) (by lia) S13
set_option maxHeartbeats 4000000 in
theorem lawTurn {F₀ : Fz} {L fa pl sh T d it : Addr} {PI : OP} {cd lov miv hiv : Value} {xs : List Value} {lo mi hi : Int} {m : Str → Option Value} {b : Bool} {tw : Tok} {tb0 tb : List (Int × Value)} {nss : List (List Nat)} {fs : List Value} {i : Nat} {v : Value} {Q : Flow → Shared → Prop} (hm : Rm A 70) (hL : s₀.heap.objs.size ≤ L)
    (h0 : ∃ h₀, Gl (hd.heap_1 P) h₀ ∧ ∀ b o, h₀.get? b = some o → F₀ b = some o) (l0 : F₀.le F) (hT : s₀.heap.objs.size ≤ T) (h3 : 3 < T) (hsh : ∃ tr, InstF F₀ sh 363 [(Str.ofString "table", .ref T), (Str.ofString "trailer", .ref tr)])
    (k0 : RawK b lo lov) (k2 : RawK b hi hiv) (m1 : m (Str.ofString "shelf") = some (.ref sh)) (m2 : m (Str.ofString "leaf") = some v)
    (hfs : Al (fun (ns : List Nat) v => ∃ m : Int, KidV prog w F₀ tb0 b (fun _ => False) 0 m ns v) nss fs) (hnd : NdL nss.flatten) (hv : fs[i]? = some v)
    (hd0 : Dam prog w F₀ F b (fun ns => Dead lo hi ns ∧ ns ∈ nss.take i) tb0 tb) (hz : tb.length ≤ 1000 + i) (hi10 : i ≤ 1000)
    (S : At (hd.heap_1 P) s₀ X F ((L, NsO m) :: (it, PI) :: (L + 1 + 1 + 1 + 1 + 1, CellO (some hiv)) :: (L + 1 + 1 + 1 + 1, CellO (some miv)) :: (L + 1 + 1 + 1, CellO (some lov)) :: (L + 1 + 1, CellO (some (.str (wordS b) tw))) :: (L + 1, CellO (some (.ref pl))) :: (pl, ListO xs) :: (T, DictI prog w tb) :: N) s)
    (hk : ∀ F' m' tb' s', F.le F' → Dam prog w F₀ F' b (fun ns => Dead lo hi ns ∧ ns ∈ nss.take (i + 1)) tb0 tb' → tb'.length ≤ 1000 + (i + 1) → (∀ y, y ≠ Str.ofString "node" → y ≠ Str.ofString "keys" → m' y = m y) →
      At (hd.heap_1 P) s₀ X F' ((L, NsO m') :: (it, PI) :: (L + 1 + 1 + 1 + 1 + 1, CellO (some hiv)) :: (L + 1 + 1 + 1 + 1, CellO (some miv)) :: (L + 1 + 1 + 1, CellO (some lov)) :: (L + 1 + 1, CellO (some (.str (wordS b) tw))) :: (L + 1, CellO (some (.ref pl))) :: (pl, ListO xs) :: (T, DictI prog w tb') :: N) s' → Q .next s') : wpAny (model prog w) A (execs loopBody (lawEnv L fa cd)) Q E s := by
  show wpAny _ _ (execs (_ :: _) _) _ _ _
  obtain ⟨ns, hns, mm1, k, e, d1, t0, kvs1, r1, r2, a1, a2, a3, a4, a5, a6, a7, a8, a9, a10⟩ := hfs.get' hv
  obtain ⟨hk0, hrow⟩ := a10
  rcases hrow with hf | ⟨l, rxs, x1, x2, x3⟩
  · exact hf.elim
  have hne : ns ≠ [] := by rintro rfl; cases a7
  obtain ⟨tr, hsi⟩ := hsh
  have htk : valueAt tb k = some (.ref e) := by
    rcases hd0 k _ a4 with q | ⟨ns', e1, d2, t1, kvs2, e', d', t', kvs3, l2, xs2, b1, b2, b3, b4, b5, b6, b7, b8, b9, _⟩
    · exact q
    · exfalso
      cases b1
      have ed := hasTup_inj a5 b2
      simp only [List.cons.injEq, Value.ref.injEq, and_true] at ed
      obtain ⟨_, rfl⟩ := ed
      obtain rfl := HasD.inj a6 b3
      rw [b5] at x1
      cases x1
      obtain rfl := hasList_inj b6 x2
      obtain rfl := RowF.inj b7 x3
      exact apart hnd.1 hns b8.2 hne
  (repeat cell_call)
  refine atMeth (by assumption) (hsi.mono l0).inst rfl (by k_is) (by k_is) (by k_is) ?_
  (repeat cell_call)
  have S1 := S.up 8 rfl
  (dsimp only [List.eraseIdx, List.take, List.drop, List.cons_append, List.nil_append, List.set] at S1)
  refine fetch_led h0 l0 S1 hT h3 (hm.mono (by decide)) ⟨tr, hsi.mono l0⟩ (Fet.ofRef (a3.mono l0) htk (a5.mono l0) (a6.mono l0)) fun s2 S2 => ?_
  have S2 := S2.down 8
  (dsimp only [List.eraseIdx, List.take, List.drop, List.cons_append, List.nil_append, List.set] at S2)
  (repeat cell_call)
  have hnl : ns.length ≤ 1000 := by
    have : ns.length ≤ nss.flatten.length := by rw [List.length_flatten]; exact mem_sum_le (f := List.length) (List.mem_of_getElem? hns)
    exact Nat.le_trans this hnd.2
  refine compA0 (K := hd.heap_1 P) (X := X) (s₀ := s₀) rfl (by exact rfl) (by decide) rfl (by decide) (by exact rfl) (by exact rfl) (by exact rfl) ?_
  (repeat cell_call)
  refine subDS (by assumption) (.inr (a6.h.mono l0)) x1 ?_ rfl
  intro _ _
  refine mkSlice (K := hd.heap_1 P) (X := X) (s₀ := s₀) ?_
  refine evalPart_none_step ?_
  refine evalPart_none_step ?_
  refine evalPart_some_step ?_
  (repeat cell_call)
  refine ⟨_, _, by assumption, fun sl s3 hsl S3 => ?_⟩
  refine subSlT S3 (.inr (x2.mono l0)) (.inl (.head _)) .none .none (.int _ _) (by simp) (by rw [x3.1]; lia) (fun q s4 hq S4 => ?_) rfl
  obtain ⟨hzl, hzg⟩ := pick2_get rxs ns.length x3.1
  generalize (slicePick rxs.toArray none none (some 2)).toList = zs at *
  obtain ⟨oq, poq, hfq, grq, S5⟩ := S4.freeze hq
  have S5 := S5.tail
  have hlq : Has (F.add q oq) q (ListO zs) := ⟨oq, Fz.add_self _ _ _, poq⟩
  refine iterL S5 (.inr hlq) fun it2 s5 hit2 S6 => ?_
  refine ⟨it2, _, zs.length, _, _, F.add q oq, _, _, fun j F' ys => F' = F.add q oq ∧ Al (fun (n : Nat) kv => RawK b (3 * (n : Int)) kv) (ns.take j) ys, rfl, srcL (xs := zs) hm.h hit2, small_sizeLine (by lia), S6, ⟨rfl, by simpa using .nil⟩, fun j F' ys N' hI hN => .inr (hI.1 ▸ hlq), ?_, ?_⟩
  · rintro j F' ys u mc C acc s6 hj hu ⟨rfl, hys⟩ S7
    have hjn : j < ns.length := by lia
    have hx : ns[j]? = some ns[j] := List.getElem?_eq_getElem hjn
    obtain ⟨v', kv, tv, y1, y2, y3, y4⟩ := x3.2 j _ hx
    have hu : zs[j]? = some u := hu
    rw [hzg j hjn, y1] at hu
    cases hu
    have y3 := (y3.mono l0).mono grq.1
    show wpAny _ _ (pure true) _ _ _
    refine wpAny_pure ?_
    (repeat cell_call)
    refine eq_str ?_
    clear k0 k2 hd0 hk h0 hfs S S1 S2 S3 S4 S5 S6
    cases b with
    | false =>
      obtain ⟨x, rfl, I⟩ := y3
      rw [show (wordS false == Str.ofString "Nums") = false from by decide +kernel]
      (repeat cell_call)
      refine atGet (by assumption) I.inst rfl (by k_is) (by k_is) (by k_is) y4.handed ?_
      intro _ _
      exact ⟨_, _, ⟨rfl, by rw [take_snoc hx]; exact hys.snoc y4⟩, by assumption⟩
    | true =>
      obtain rfl := y3
      rw [show (wordS true == Str.ofString "Nums") = true from by decide +kernel]
      (repeat cell_call)
      exact ⟨_, _, ⟨rfl, by rw [take_snoc hx]; exact hys.snoc y4⟩, by assumption⟩
  · rintro F' ys acc s6 ⟨rfl, hys⟩ hlen2 hacc S7
    rw [List.take_of_length_le (by lia)] at hys
    obtain ⟨oa, poa, hfa, gra, S8⟩ := S7.swap.freeze hacc
    have hla : Has ((F.add q oq).add acc oa) acc (ListO ys) := ⟨oa, Fz.add_self _ _ _, poa⟩
    have gq := grq.1.trans gra.1
    obtain ⟨kv1, f1, p1⟩ := hys.get (i := 0) (by rw [← List.head?_eq_getElem?]; exact a7)
    have hlast : ns[ns.length - 1]? = some r2 := by rw [← List.getLast?_eq_getElem?]; exact a8
    obtain ⟨kv2, f2, p2⟩ := hys.get hlast
    have hyl := hys.length
    obtain ⟨li, v1, v2, q1, q2, hlim, _⟩ := a9.h
    obtain ⟨m9, w1, w2, w3, w4, w5, S9⟩ : ∃ m9 : Str → Option Value, m9 (Str.ofString "shelf") = some (.ref sh) ∧ m9 (Str.ofString "leaf") = some v ∧ m9 (Str.ofString "node") = some (.ref d1) ∧ m9 (Str.ofString "keys") = some (.ref acc) ∧ (∀ y, y ≠ Str.ofString "node" → y ≠ Str.ofString "keys" → m9 y = m y) ∧
        At (hd.heap_1 P) s₀ X ((F.add q oq).add acc oa) ((L, NsO m9) :: (it, PI) :: (L + 1 + 1 + 1 + 1 + 1, CellO (some hiv)) :: (L + 1 + 1 + 1 + 1, CellO (some miv)) :: (L + 1 + 1 + 1, CellO (some lov)) :: (L + 1 + 1, CellO (some (.str (wordS b) tw))) :: (L + 1, CellO (some (.ref pl))) :: (pl, ListO xs) :: (T, DictI prog w tb) :: N) s6 :=
      ⟨(fun z => if z = Str.ofString "keys" then some (.ref acc) else if z = Str.ofString "node" then some (.ref d1) else m z), (if_neg (by decide)).trans ((if_neg (by decide)).trans m1), (if_neg (by decide)).trans ((if_neg (by decide)).trans m2), (if_neg (by decide)).trans (if_pos rfl), if_pos rfl, fun y h1 h2 => (if_neg h2).trans (if_neg h1), S8⟩
    have hfin : Dead lo hi ns → ∀ s9, At (hd.heap_1 P) s₀ X ((F.add q oq).add acc oa) ((L, NsO m9) :: (it, PI) :: (L + 1 + 1 + 1 + 1 + 1, CellO (some hiv)) :: (L + 1 + 1 + 1 + 1, CellO (some miv)) :: (L + 1 + 1 + 1, CellO (some lov)) :: (L + 1 + 1, CellO (some (.str (wordS b) tw))) :: (L + 1, CellO (some (.ref pl))) :: (pl, ListO xs) :: (T, DictI prog w tb) :: N) s9 → wpAny (model prog w) A (execs dmBody (lawEnv L fa cd)) (fun f s' => f = .next ∧ ∃ F' tb', ((F.add q oq).add acc oa).le F' ∧ Dam prog w F₀ F' b (fun ns => Dead lo hi ns ∧ ns ∈ nss.take (i + 1)) tb0 tb' ∧ tb'.length ≤ 1000 + (i + 1) ∧ At (hd.heap_1 P) s₀ X F' ((L, NsO m9) :: (it, PI) :: (L + 1 + 1 + 1 + 1 + 1, CellO (some hiv)) :: (L + 1 + 1 + 1 + 1, CellO (some miv)) :: (L + 1 + 1 + 1, CellO (some lov)) :: (L + 1 + 1, CellO (some (.str (wordS b) tw))) :: (L + 1, CellO (some (.ref pl))) :: (pl, ListO xs) :: (T, DictI prog w tb') :: N) s') E s9 := by
      intro hde s9 S9'
      with_reducible refine lawDam (F₀ := F₀) (m := m9) (tb0 := tb0) (tb := tb) (nss := nss) (ns := ns) (i := i) (k := k) hm (l0.trans gq) ⟨tr, hsi⟩ w1 w2 w3 a3 a4 a5 a6 hlim hk0 x1 x2 x3 hde hns (hd0.mono gq) hz hi10 S9' ?_
      intro F' tb' s' g' hd' hl' S'
      exact ⟨rfl, F', tb', g', hd', hl', S'⟩
    clear S S1 S2 S3 S4 S5 S6 S7 S8
    dsimp only [dmBody, dmFn] at hfin
    (repeat cell_call)
    refine negI (by assumption) ?_
    intro _ _ _
    refine subLlast (by assumption) (.inr hla) (by rw [List.getLast?_eq_getElem?, ← hyl]; exact f2) ?_ rfl
    (repeat cell_call)
    refine ltK p2 k0 ?_
    by_cases c1 : 3 * (r2 : Int) < lo
    · rw [decide_eq_true c1]
      refine wpAny_truthy_bool ?_
      refine itT ?_
      refine itT ?_
      rename_i S10
      have hde : Dead lo hi ns := ⟨r1, r2, a7, a8, .inl c1⟩
      with_reducible refine wpAny_mono (hfin hde _ S10) (fun f s11 h11 => ?_) (fun _ _ e => e)
      obtain ⟨rfl, F', tb', g', hd', hl', S'⟩ := h11
      dsimp only
      refine wpAny_execs_nil ?_
      exact hk F' m9 tb' s11 (gq.trans g') hd' hl' w5 S'
    · rw [decide_eq_false c1]
      (repeat cell_call)
      refine subL (by assumption) (.inr hla) (by decide) (by decide) f1 ?_ rfl
      (repeat cell_call)
      refine gtK p1 k2 ?_
      by_cases c2 : hi < 3 * (r1 : Int)
      · rw [decide_eq_true c2]
        refine wpAny_truthy_bool ?_
        refine itT ?_
        refine itT ?_
        rename_i S10
        have hde : Dead lo hi ns := ⟨r1, r2, a7, a8, .inr c2⟩
        with_reducible refine wpAny_mono (hfin hde _ S10) (fun f s11 h11 => ?_) (fun _ _ e => e)
        obtain ⟨rfl, F', tb', g', hd', hl', S'⟩ := h11
        dsimp only
        refine wpAny_execs_nil ?_
        exact hk F' m9 tb' s11 (gq.trans g') hd' hl' w5 S'
      · rw [decide_eq_false c2]
        rename_i S10
        (repeat cell_call)
        exact hk _ m9 tb _ gq (hd0.next.mono gq) (by lia) w5 S10
end

-- D9
theorem srt_nd {z : List Nat} (h : Srt z) (hz : z.length ≤ 1000) : NdL z := ⟨List.Pairwise.imp (fun h => Nat.ne_of_lt h) h, hz⟩
section
variable {prog : Program} {w : World} {A : Around} {P : Params} {s₀ s : Shared} {X : List Addr} {F : Fz} {N : Led} {E : Value → Shared → Prop} {K : Frag}
set_option maxHeartbeats 4000000 in
theorem law17 {F₀ : Fz} {L fa pl sh T d : Addr} {cd lov miv hiv : Value} {xs : List Value} {lo mi hi : Int} {m : Str → Option Value} {b : Bool} {tw : Tok} {tb : List (Int × Value)} {h : Nat} {t : Tr h} {kvs : List (Str × Value)} {n : Nat} {Q : Flow → Shared → Prop} (hm : Rm A 70) (hL : s₀.heap.objs.size ≤ L)
    (h0 : ∃ h₀, Gl (hd.heap_1 P) h₀ ∧ ∀ b o, h₀.get? b = some o → F₀ b = some o) (l0 : F₀.le F) (hT : s₀.heap.objs.size ≤ T) (hT0 : F₀ T = none) (hsh : ∃ tr, InstF F₀ sh 363 [(Str.ofString "table", .ref T), (Str.ofString "trailer", .ref tr)])
    (hb0 : Body prog w F₀ tb b (fun _ => False) h ((n : Int) + 1) t kvs) (hz : tb.length ≤ 1000) (tf : TreeF prog w F b sh T tb h t d kvs n)
    (k0 : RawK b lo lov) (k2 : RawK b hi hiv) (m1 : m (Str.ofString "shelf") = some (.ref sh)) (m2 : m (Str.ofString "root") = some (.ref d))
    (S : At (hd.heap_1 P) s₀ X F ((L, NsO m) :: (L + 1 + 1 + 1 + 1 + 1, CellO (some hiv)) :: (L + 1 + 1 + 1 + 1, CellO (some miv)) :: (L + 1 + 1 + 1, CellO (some lov)) :: (L + 1 + 1, CellO (some (.str (wordS b) tw))) :: (L + 1, CellO (some (.ref pl))) :: (pl, ListO xs) :: N) s)
    (hk : ∀ F' m' tb' s', (F.del T).le F' → (∀ y, y ≠ Str.ofString "leaf" → y ≠ Str.ofString "node" → y ≠ Str.ofString "keys" → m' y = m y) → Dam prog w F₀ F' b (Dead lo hi) tb tb' →
      At (hd.heap_1 P) s₀ X F' ((L, NsO m') :: (L + 1 + 1 + 1 + 1 + 1, CellO (some hiv)) :: (L + 1 + 1 + 1 + 1, CellO (some miv)) :: (L + 1 + 1 + 1, CellO (some lov)) :: (L + 1 + 1, CellO (some (.str (wordS b) tw))) :: (L + 1, CellO (some (.ref pl))) :: (pl, ListO xs) :: (T, DictI prog w tb') :: N) s' → wpAny (model prog w) A (execs (lawBody.drop 18) (lawEnv L fa cd)) Q E s') : wpAny (model prog w) A (execs (lawBody.drop 17) (lawEnv L fa cd)) Q E s := by
  have hnd := srt_nd tf.srt (Nat.le_trans tf.fl (by decide))
  show wpAny _ _ (execs (_ :: _) _) _ _ _
  (repeat cell_call)
  refine wpAny_mono (Q := fun f s' => f = .next ∧ ∃ F' m' tb', (F.del T).le F' ∧ (∀ y, y ≠ Str.ofString "leaf" → y ≠ Str.ofString "node" → y ≠ Str.ofString "keys" → m' y = m y) ∧ Dam prog w F₀ F' b (Dead lo hi) tb tb' ∧ At (hd.heap_1 P) s₀ X F' ((L, NsO m') :: (L + 1 + 1 + 1 + 1 + 1, CellO (some hiv)) :: (L + 1 + 1 + 1 + 1, CellO (some miv)) :: (L + 1 + 1 + 1, CellO (some lov)) :: (L + 1 + 1, CellO (some (.str (wordS b) tw))) :: (L + 1, CellO (some (.ref pl))) :: (pl, ListO xs) :: (T, DictI prog w tb') :: N) s') ?_ (fun f s' h' => ?_) (fun _ _ e => e)
  · refine forI (K := hd.heap_1 P) (X := X) (s₀ := s₀) (by exact rfl) (by exact rfl) hL ?_
    clear hk
    (repeat cell_call)
    refine law_leaves_ (F₀ := F₀) S (hm.mono (by decide)) l0 tf.sh tf.dd hb0 tf.sz hnd fun a fs nss s1 ha hlen hfs hnd' S1 => ?_
    have S2 := S1.thaw h0 hT0 l0 tf.sh.t hT
    obtain ⟨o, po, hfo, gr, S3⟩ := S2.swap.freeze ha
    have S3 := S3.down 7
    (dsimp only [List.eraseIdx, List.take, List.drop, List.cons_append, List.nil_append, List.set] at S3)
    have hla : Has ((F.del T).add a o) a (ListO fs) := ⟨o, Fz.add_self _ _ _, po⟩
    have l1 : F₀.le ((F.del T).add a o) := (Fz.le_del hT0 l0).trans gr.1
    generalize (F.del T).add a o = F1 at *
    have hfl := hfs.length
    refine iterL S3 (.inr hla) fun it s2 hit S4 => ?_
    refine ⟨it, _, fs.length, _, _, F1, m, _, fun i F' m' N' => F1.le F' ∧ (∀ y, y ≠ Str.ofString "leaf" → y ≠ Str.ofString "node" → y ≠ Str.ofString "keys" → m' y = m y) ∧ ∃ tb', N' = (L + 1 + 1 + 1 + 1 + 1, CellO (some hiv)) :: (L + 1 + 1 + 1 + 1, CellO (some miv)) :: (L + 1 + 1 + 1, CellO (some lov)) :: (L + 1 + 1, CellO (some (.str (wordS b) tw))) :: (L + 1, CellO (some (.ref pl))) :: (pl, ListO xs) :: (T, DictI prog w tb') :: N ∧ Dam prog w F₀ F' b (fun ns => Dead lo hi ns ∧ ns ∈ nss.take i) tb tb' ∧ tb'.length ≤ 1000 + i, rfl, srcL (xs := fs) hm.h hit, S4, ⟨Fz.le.refl _, fun _ _ _ _ => rfl, tb, rfl, fun k x e => .inl e, by lia⟩, fun i F' m' N' N'' hI hN => .inr (hla.mono hI.1), ?_, ?_⟩
    · rintro i F' m' N' v s3 hi hv ⟨l2, hm', tb', rfl, hd', hz'⟩ S5
      have hT' := @lawTurn
      dsimp only [loopBody, loopFn] at hT'
      with_reducible refine hT' (mi := 0) (d := 0) (L := L) (F₀ := F₀) (T := T) (it := it) hm hL h0 (l1.trans l2) hT tf.sh.n hsh k0 k2 ?_ (if_pos rfl) hfs hnd' hv hd' hz' (by lia) S5 ?_
      · rw [if_neg (by decide)]; exact (hm' _ (by decide) (by decide) (by decide)).trans m1
      · intro F2 m2' tb2 s4 g2 hd2 hz2 hmm S6
        exact ⟨F2, m2', _, ⟨l2.trans g2, fun y y1 y2 y3 => (hmm y y2 y3).trans ((if_neg y1).trans (hm' y y1 y2 y3)), tb2, rfl, hd2, hz2⟩, S6⟩
    · rintro F' m' N' s3 ⟨l2, hm', tb', rfl, hd', hz'⟩ S5
      exact ⟨rfl, F', m', tb', gr.1.trans l2, hm', hd'.weak fun _ z => z.1, S5⟩
  · obtain ⟨rfl, F', m', tb', g, hm', hd', S'⟩ := h'
    exact hk F' m' tb' s' g hm' hd' S'
set_option maxHeartbeats 4000000 in
theorem law18 {F₀ : Fz} {L fa pl sh T d wl : Addr} {cd lov miv hiv : Value} {xs ws : List Value} {lo hi : Int} {m : Str → Option Value} {b : Bool} {tw : Tok} {tb tb' : List (Int × Value)} {h : Nat} {t : Tr h} {kvs : List (Str × Value)} {n : Nat} {Q : Flow → Shared → Prop} (hm : Rm A 70)
    (l0 : F₀.le F) (hT : s₀.heap.objs.size ≤ T) (h3 : 3 < T) (hsh : ∃ tr, InstF F₀ sh 363 [(Str.ofString "table", .ref T), (Str.ofString "trailer", .ref tr)])
    (hb0 : Body prog w F₀ tb b (fun _ => False) h ((n : Int) + 1) t kvs) (hdd : HasD prog w F d kvs) (hda : Dam prog w F₀ F b (Dead lo hi) tb tb') (hsrt : Srt (flat h t)) (hh : h ≤ 30) (hsz : tsize h t ≤ 1000) (hfl : (flat h t).length ≤ 13)
    (k0 : RawK b lo lov) (k2 : RawK b hi hiv) (m1 : m (Str.ofString "shelf") = some (.ref sh)) (m2 : m (Str.ofString "root") = some (.ref d)) (m4 : m (Str.ofString "whole") = some (.ref wl)) (hwl : Has F wl (ListO ws)) (hws : Al (PairF F b) (flt lo hi (flat h t)) ws)
    (S : At (hd.heap_1 P) s₀ X F ((L, NsO m) :: (L + 1 + 1 + 1 + 1 + 1, CellO (some hiv)) :: (L + 1 + 1 + 1 + 1, CellO (some miv)) :: (L + 1 + 1 + 1, CellO (some lov)) :: (L + 1 + 1, CellO (some (.str (wordS b) tw))) :: (L + 1, CellO (some (.ref pl))) :: (pl, ListO xs) :: (T, DictI prog w tb') :: N) s)
    (hk : ∀ F' s', At (hd.heap_1 P) s₀ X F' ((L, NsO m) :: (L + 1 + 1 + 1 + 1 + 1, CellO (some hiv)) :: (L + 1 + 1 + 1 + 1, CellO (some miv)) :: (L + 1 + 1 + 1, CellO (some lov)) :: (L + 1 + 1, CellO (some (.str (wordS b) tw))) :: (L + 1, CellO (some (.ref pl))) :: (pl, ListO xs) :: N) s' → Q (.ret (.bool true)) s') : wpAny (model prog w) A (execs (lawBody.drop 18) (lawEnv L fa cd)) Q E s := by
  obtain ⟨dead', hb1, hal, hdd'⟩ := hb0.end l0 hda
  show wpAny _ _ (execs (_ :: _) _) _ _ _
  have S1 := S.up 7 rfl
  (dsimp only [List.eraseIdx, List.take, List.drop, List.cons_append, List.nil_append, List.set] at S1)
  clear S
  obtain ⟨o, po, hfo, gr, S2⟩ := S1.freeze hT
  clear S1
  have hTt : Has (F.add T o) T (DictI prog w tb') := ⟨o, Fz.add_self _ _ _, po⟩
  have l1 := l0.trans gr.1
  have hdd1 := hdd.mono gr.1
  have hwl1 := hwl.mono gr.1
  have hws1 := hws.mono fun _ _ z => PairF.mono z gr.1
  have hb2 : Body prog w (F.add T o) tb' b dead' h ((n : Int) + 1) t kvs := hb1.mono gr.1 (fun _ _ h => h) (Int.le_refl _)
  obtain ⟨tr, hsi⟩ := hsh
  have hs1 : ShF prog w (F.add T o) sh T tb' := ⟨⟨tr, hsi.mono l1⟩, hTt, h3⟩
  generalize F.add T o = F1 at *
  (repeat cell_call)
  refine BoolOp_and ?_
  (repeat cell_call)
  refine tree_span_ (by assumption) (hm.mono (by decide)) hs1 k0 k2 hdd1.notRef ⟨hdd1.notRef, .inl rfl⟩ hdd1 hb2 hal hsrt (Nat.le_trans hh (by decide)) hsz (Nat.le_trans hfl (by decide)) (fun ns r1 r2 hq e1 e2 => ?_) fun a F' ps s1 ha g hps S3 => ?_
  · obtain ⟨q1, q2, x, y, z⟩ := hdd' ns hq
    rw [x] at e1; rw [y] at e2
    cases e1; cases e2
    exact z
  have S3 := S3.swap
  (repeat cell_call)
  refine pairsEq S3 (.inl (.tail _ (.head _))) (.inr (hwl1.mono g.1)) hps (hws1.mono fun _ _ z => PairF.mono z g.1) hm.pu ?_
  refine wpAny_truthy_bool ?_
  refine itT ?_
  refine BoolOp_one ?_
  (repeat cell_call)
  refine isRefNot (by assumption) (hdd1.mono g.1).notRef ?_
  intro _ S4
  (repeat cell_call)
  exact hk _ _ S4.swap.tail
end

-- D10
section
variable {prog : Program} {w : World} {A : Around} {P : Params} {s₀ s : Shared} {X : List Addr} {F : Fz} {N : Led} {E : Value → Shared → Prop} {K : Frag}
set_option maxHeartbeats 4000000 in
theorem law_ {L fa l : Addr} {cd : Value} {vs : List Value} {is : List Int} {m : Str → Option Value} {Q : Flow → Shared → Prop} (hm : Rm A 70) (hL : s₀.heap.objs.size ≤ L) (hsc : m (Str.ofString "script") = some (.ref l)) (hl : Has F l (ListI vs)) (hi : IntsAre vs is) (hz : vs.length ≤ 63) (hF : LamF F 454 452)
    (S : At (hd.heap_1 P) s₀ X F ((L, NsO m) :: (L + 1 + 1 + 1 + 1 + 1, CellO none) :: (L + 1 + 1 + 1 + 1, CellO none) :: (L + 1 + 1 + 1, CellO none) :: (L + 1 + 1, CellO none) :: (L + 1, CellO none) :: (452, fun o => o = tabObj #[]) :: N) s)
    (hk : ∀ F' N' s', At (hd.heap_1 P) s₀ X F' N' s' → (452, fun o => ∃ ps, o = tabObj ps) ∈ N' → Q (.ret (.bool true)) s') : wpAny (model prog w) A (execs lawBody (lawEnv L fa cd)) Q E s := by
  with_reducible refine law0 hm hL hsc hl hi hz S fun pl xs s1 hp S1 => ?_
  clear S
  with_reducible refine law1 hm hL hp S1 fun b tw wi tn xs m s2 w2 w4 hp mw S2 => ?_
  clear S1
  with_reducible refine law2 hm hL hp S2 fun nl ns vs2 xs m2 s3 hs hne hlen h20 hi2 hp mw2 mnl S3 => ?_
  clear S2
  have mw2 := mw2.trans mw
  with_reducible refine law3 hm hlen h20 hi2 mnl S3 fun pr ps F1 m3 s4 g1 hpr hps mw3 mpr S4 => ?_
  clear S3
  have mw3 := mw3.trans mw2
  with_reducible refine law4 hm S4 fun sh T tr F2 m4 s5 hT h3 g2 hsh m4e m4s S5 => ?_
  clear S4
  have l12 := g2.1
  have l02 := g1.1.trans g2.1
  with_reducible refine law5 hm hs hne hlen w2 w4 (hpr.mono l12) (hps.mono fun _ _ z => PairF.mono z l12) hsh h3 (hF.mono l02) ((m4e _ (by decide)).trans mw3) ((m4e _ (by decide)).trans mpr) m4s S5 fun h t d kvs tb n F3 m5 s6 g3 hdd hbd htb hn1 hfe hh hsz m5e m5r S6 => ?_
  clear S5
  subst hfe
  have htz : tb.length ≤ 1000 := by have := htb.1; omega
  have hps := hps.mono fun _ _ z => PairF.mono z (g2.1.trans g3.1)
  have hpr := hpr.mono (g2.1.trans g3.1)
  have hsh := hsh.mono g3.1
  have m5s := (m5e (Str.ofString "shelf") (by decide)).trans m4s
  have m5p := (m5e (Str.ofString "pairs") (by decide)).trans ((m4e _ (by decide)).trans mpr)
  clear g1 g2 g3 m4e m5e m4s mpr mw mw2 mw3
  with_reducible refine law6 hm hp S6 fun bl v0 v1 v2 r0 r1 r2 xs m6 s7 hp k0 k1 k2 h01 h12 m6e m6b S7 => ?_
  clear S6
  have m6s := (m6e (Str.ofString "shelf") (by decide)).trans m5s
  have m6p := (m6e (Str.ofString "pairs") (by decide)).trans m5p
  have m6r := (m6e (Str.ofString "root") (by decide)).trans m5r
  with_reducible refine law7 hm hL m6b S7 fun s8 S8 => ?_
  clear S7 m5s m5p m5r
  have h0 := S8.top
  have S9 := S8.up 7 rfl
  (dsimp only [List.eraseIdx, List.take, List.drop, List.cons_append, List.nil_append, List.set] at S9)
  clear S8
  obtain ⟨o, po, hf0, g4, S10⟩ := S9.freeze hT
  clear S9
  have tf : TreeF prog w (F3.add T o) b sh T tb h t d kvs n := ⟨⟨⟨tr, hsh.mono g4.1⟩, ⟨o, Fz.add_self _ _ _, po⟩, h3⟩, hdd.mono g4.1, hbd.mono g4.1 (fun _ _ h => h) (Int.le_refl _), hs, hh, hsz, hlen, h20⟩
  have hps := hps.mono fun _ _ z => PairF.mono z g4.1
  have hpr := hpr.mono g4.1
  have l0 := g4.1
  generalize F3.add T o = F4 at *
  with_reducible refine law8 (pr := pr) (ps := ps) hm tf k0 k1 k2 m6s m6r S10 fun wl ws F5 m7 s9 g hwl hws m7e m7w S11 => ?_
  clear S10
  have tf := tf.mono g.1
  have hps := hps.mono fun _ _ z => PairF.mono z g.1
  have hpr := hpr.mono g.1
  have l0 := l0.trans g.1
  have m7s := (m7e (Str.ofString "shelf") (by decide)).trans m6s
  have m7p := (m7e (Str.ofString "pairs") (by decide)).trans m6p
  have m7r := (m7e (Str.ofString "root") (by decide)).trans m6r
  with_reducible refine law9 (d := d) hm tf k0 k1 k2 m7p hpr hps m7w hwl hws S11 fun s10 S12 => ?_
  clear S11
  with_reducible refine law10 (lo := r0) (mi := r1) (hi := r2) hm tf m7s m7r m7p hpr hps S12 fun F6 s11 g S13 => ?_
  clear S12
  have tf := tf.mono g.1
  have hps := hps.mono fun _ _ z => PairF.mono z g.1
  have hpr := hpr.mono g.1
  have hws := hws.mono fun _ _ z => PairF.mono z g.1
  have hwl := hwl.mono g.1
  have l0 := l0.trans g.1
  with_reducible refine law11 (lo := r0) (mi := r1) (hi := r2) (sh := sh) (T := T) (d := d) (tb := tb) (kvs := kvs) (n := n) hm m7p hpr hps hp hne hlen S13 fun ov n0 xs m8 s12 hp hn0 hov m8e m8o S14 => ?_
  clear S13
  have m8s := (m8e (Str.ofString "shelf") (by decide)).trans m7s
  have m8r := (m8e (Str.ofString "root") (by decide)).trans m7r
  have m8w := (m8e (Str.ofString "whole") (by decide)).trans m7w
  with_reducible refine law12 (pr := pr) (ps := ps) (lo := r0) (mi := r1) (hi := r2) hm tf m8s m8r m8o hn0 hov S14 fun F7 s13 g S15 => ?_
  clear S14
  have tf := tf.mono g.1
  have hws := hws.mono fun _ _ z => PairF.mono z g.1
  have hwl := hwl.mono g.1
  have l0 := l0.trans g.1
  with_reducible refine law13 (pr := pr) (ps := ps) hm tf k0 k1 k2 m8s m8r S15 fun F8 s14 g S16 => ?_
  clear S15
  have tf := tf.mono g.1
  have hws := hws.mono fun _ _ z => PairF.mono z g.1
  have hwl := hwl.mono g.1
  have l0 := l0.trans g.1
  with_reducible refine law14 (pr := pr) (ps := ps) hm tf k0 k1 k2 m8s m8r S16 fun fl fs F9 m9 s15 g hfl hfs m9e m9f S17 => ?_
  clear S16
  have tf := tf.mono g.1
  have hws := hws.mono fun _ _ z => PairF.mono z g.1
  have hwl := hwl.mono g.1
  have l0 := l0.trans g.1
  have m9s := (m9e (Str.ofString "shelf") (by decide)).trans m8s
  have m9r := (m9e (Str.ofString "root") (by decide)).trans m8r
  have m9w := (m9e (Str.ofString "whole") (by decide)).trans m8w
  with_reducible refine law15 (pr := pr) (ps := ps) hm tf k0 k1 k2 m9s m9r S17 fun sl ss F10 m10 s16 g hsl hss m10e m10f S18 => ?_
  clear S17
  have tf := tf.mono g.1
  have hws := hws.mono fun _ _ z => PairF.mono z g.1
  have hwl := hwl.mono g.1
  have hfs := hfs.mono fun _ _ z => PairF.mono z g.1
  have hfl := hfl.mono g.1
  have l0 := l0.trans g.1
  have m10s := (m10e (Str.ofString "shelf") (by decide)).trans m9s
  have m10r := (m10e (Str.ofString "root") (by decide)).trans m9r
  have m10w := (m10e (Str.ofString "whole") (by decide)).trans m9w
  have m10i := (m10e (Str.ofString "first") (by decide)).trans m9f
  with_reducible refine law16 (pr := pr) (ps := ps) hm tf h01 h12 m10w m10i m10f hwl hfl hsl hws hfs hss S18 fun s17 S19 => ?_
  clear S18
  with_reducible refine law17 (mi := r1) hm hL h0 l0 hT hf0 ⟨tr, hsh⟩ hbd htz tf k0 k2 m10s m10r S19 fun F11 m11 tb' s18 g m11e hda S20 => ?_
  clear S19
  have hwl := (Has.del tf.sh.t dictI_cls hwl list_cls).mono g
  have hws := hws.mono fun _ _ z => (PairF.del tf.sh.t dictI_cls z).mono g
  have l1 := (Fz.le_del hf0 l0).trans g
  have m11s := (m11e (Str.ofString "shelf") (by decide) (by decide) (by decide)).trans m10s
  have m11r := (m11e (Str.ofString "root") (by decide) (by decide) (by decide)).trans m10r
  have m11w := (m11e (Str.ofString "whole") (by decide) (by decide) (by decide)).trans m10w
  with_reducible refine law18 hm l1 hT h3 ⟨tr, hsh⟩ hbd (hdd.mono l1) hda hs hh hsz hlen k0 k2 m11s m11r m11w hwl hws S20 fun F12 s19 S21 => ?_
  exact hk _ _ s19 S21 (.tail _ (.tail _ (.tail _ (.tail _ (.tail _ (.tail _ (.tail _ (.head _))))))))
end

-- D11
section
variable {prog : Program} {w : World} {A : Around} {E : Value → Shared → Prop}
theorem lamF_of {p : Program} {loose : List Str} {mean : ExcName → Option Value} {mg mb : Str → Option Value} {g : Heap} (T : Top p loose mean mg mb g) (hc : CodeHd g 454 452) (hn : g.get? 452 = none) : LamF (fun b => g.get? b) 454 452 := fun h k => by
  refine ⟨hc.keeps k, mg, T.g.keeps k, by decide, ?_⟩
  obtain ⟨bm, ob, b1, b2, b3, b4, b5, b6⟩ := T.bmain
  refine ⟨bm, ob, b1, b2, fun q => ?_, fun q => ?_, k _ _ b3, b4, b5, b6⟩
  · obtain ⟨o, es, ep, e, hd, _⟩ := T.g
    rw [q, e] at b3; cases b3; rw [hd] at b6; cases b6
  · rw [q, hn] at b3; cases b3
theorem law_start {P : Params} {p : Program} {loose : List Str} {mean : ExcName → Option Value} {mg mb : Str → Option Value} {g h₁ : Heap} {s : Shared} {L fa l : Addr} {cd : Value} {vs : List Value} {is : List Int} {m : Str → Option Value} {o5 o4 o3 o2 o1 : Obj} {Q : Flow → Shared → Prop}
    (X' : (hd.heap_1 P).In g) (T' : Top p loose mean mg mb g) (F' : Fr g L h₁ m) (N' : News g L h₁ [(L + 1 + 1 + 1 + 1 + 1, o5), (L + 1 + 1 + 1 + 1, o4), (L + 1 + 1 + 1, o3), (L + 1 + 1, o2), (L + 1, o1), (452, tabObj #[])])
    (c5 : o5.data = .cell none) (c4 : o4.data = .cell none) (c3 : o3.data = .cell none) (c2 : o2.data = .cell none) (c1 : o1.data = .cell none) (hl : g.IsList l vs.toArray) (hc : CodeHd g 454 452) (hI : IntsAre vs is) (hz : ¬ (63 : Int) < is.length) (l0 : 452 < L) (hgs : g.objs.size = L)
    (hsc : m (Str.ofString "script") = some (.ref l)) (hm : Rm A 70) (hh : s.heap = h₁)
    (hQ : ∀ s', (∀ b o, g.get? b = some o → s'.heap.get? b = some o) → s'.gens = s.gens → s'.os = s.os → (∃ ps, s'.heap.get? 452 = some (tabObj ps)) → Q (.ret (.bool true)) s') : wpAny (model prog w) A (execs lawBody (lawEnv L fa cd)) Q E s := by
  subst hh
  have hn : g.get? 452 = none := N'.fresh (a := 452) (o := tabObj #[]) (by simp)
  have hnew : ∀ (a : Addr) (o : Obj), (a, o) ∈ [(L + 1 + 1 + 1 + 1 + 1, o5), (L + 1 + 1 + 1 + 1, o4), (L + 1 + 1 + 1, o3), (L + 1 + 1, o2), (L + 1, o1), (452, tabObj #[])] → s.heap.get? a = some o ∧ g.get? a = none := fun a o h => ⟨N'.get h, N'.fresh h⟩
  have hL : s.heap.get? L = none → False := by
    intro q
    obtain ⟨o, _, _, e, _⟩ := F'.ns
    rw [q] at e; cases e
  have hlt : ∀ (b : Addr) (o : Obj), g.get? b = some o → b < L := fun b o e => by rw [← hgs]; exact Heap.lt_size e
  have hgL : g.get? L = none := by
    cases q : g.get? L with
    | none => rfl
    | some o => exact absurd (hlt _ _ q) (Nat.lt_irrefl _)
  have S : At (hd.heap_1 P) { s with heap := g } [452] (fun b => g.get? b) ((L, NsO m) :: (L + 1 + 1 + 1 + 1 + 1, CellO none) :: (L + 1 + 1 + 1 + 1, CellO none) :: (L + 1 + 1 + 1, CellO none) :: (L + 1 + 1, CellO none) :: (L + 1, CellO none) :: (452, fun o => o = tabObj #[]) :: []) s := by
    refine ⟨⟨g, ⟨X', _, _, _, _, topRead_of T'⟩, fun b o e => e⟩, ⟨rfl, rfl, rfl⟩, ?_, fun b o e _ => F'.keep b o e, fun b o e => F'.keep b o e, ?_, ?_⟩
    · show g.objs.size ≤ _
      rw [hgs]
      exact Nat.le_of_lt (Heap.lt_size (ns_iff.mp F'.ns).choose_spec.1)
    · intro q hq
      simp only [List.mem_cons, List.not_mem_nil, or_false] at hq
      rcases hq with rfl | rfl | rfl | rfl | rfl | rfl | rfl
      · exact ⟨ns_iff.mp F'.ns, hgL, .inl (Nat.le_of_eq hgs)⟩
      · exact ⟨⟨_, (hnew _ o5 (by simp)).1, c5⟩, (hnew _ o5 (by simp)).2, .inl (by show g.objs.size ≤ _; lia)⟩
      · exact ⟨⟨_, (hnew _ o4 (by simp)).1, c4⟩, (hnew _ o4 (by simp)).2, .inl (by show g.objs.size ≤ _; lia)⟩
      · exact ⟨⟨_, (hnew _ o3 (by simp)).1, c3⟩, (hnew _ o3 (by simp)).2, .inl (by show g.objs.size ≤ _; lia)⟩
      · exact ⟨⟨_, (hnew _ o2 (by simp)).1, c2⟩, (hnew _ o2 (by simp)).2, .inl (by show g.objs.size ≤ _; lia)⟩
      · exact ⟨⟨_, (hnew _ o1 (by simp)).1, c1⟩, (hnew _ o1 (by simp)).2, .inl (by show g.objs.size ≤ _; lia)⟩
      · exact ⟨⟨_, (hnew 452 (tabObj #[]) (by simp)).1, rfl⟩, (hnew 452 (tabObj #[]) (by simp)).2, .inr (by simp)⟩
    · simp only [List.map_cons, List.map_nil, List.nodup_cons, List.mem_cons, List.not_mem_nil, or_false, not_or, List.nodup_nil, and_true, not_false_eq_true]
      have l0' : (452 : Nat) < (L : Nat) := l0
      clear hlt hgL hnew N' F'
      refine ⟨⟨?_, ?_, ?_, ?_, ?_, ?_⟩, ⟨?_, ?_, ?_, ?_, ?_⟩, ⟨?_, ?_, ?_, ?_⟩, ⟨?_, ?_, ?_⟩, ⟨?_, ?_⟩, ?_⟩ <;> (intro (e : (_ : Nat) = (_ : Nat)); lia)
  have hlen : vs.length ≤ 63 := by
    have := hI.sizeZ
    rw [List.size_toArray] at this
    lia
  refine law_ hm (Nat.le_of_eq hgs) hsc ⟨_, hl.choose_spec.1, hl.choose_spec.2.1, hl.choose_spec.2.2⟩ hI hlen (lamF_of T' hc hn) S fun F2 N2 s' S' hN => ?_
  refine hQ s' (fun b o e => S'.ext b o e fun q => ?_) S'.rest.1 S'.rest.2.1 ?_
  · rw [List.mem_singleton.mp q, hn] at e; cases e
  · obtain ⟨o, e, ps, rfl⟩ := S'.get hN
    exact ⟨ps, e⟩
end

end
end Mine
set_option maxHeartbeats 8000000 in
theorem PySem.Challenge.cw_og0179_01_holds : PySem.Challenge.rw_og0179_01.Holds := by
  exact Mine.hd (by
  w_strict (k_go0; (
    refine Mine.law_start (by assumption) (by assumption) (by assumption) (by assumption) ?_ ?_ ?_ ?_ ?_ lifted codeHd (by assumption) (by assumption) (by assumption) (hideAll_size _ _) ?_ ?_ rfl ?_
    · assumption
    · assumption
    · assumption
    · assumption
    · assumption
    · rfl
    · exact ⟨rfl, by show 1 + claimMargin + 1 + 70 < recursionLimit; decide, by show 4 + 3 + 8 * 70 + 8 < cLine; decide⟩
    · intro s' hk hg1 hg2 hP
      exact ⟨⟨.inl ⟨_, .bool true, [], rfl, fun _ => rfl, .bool true, (by first | wrow_post | kc_post), unshared_nil⟩, hk, hg2, hg1.trans (by assumption)⟩, hP, trivial⟩)))
