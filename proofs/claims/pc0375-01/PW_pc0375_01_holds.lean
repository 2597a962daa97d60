import PyProof.Rows.All
import Wide.All
import OpenK.AllK
import Wide.FinOn
import PySem.Challenge.RW_pc0375_01
set_option Elab.async false
namespace Mine
section
open PySem PySem.W PyProof.Rows
set_option maxRecDepth 100000
set_option maxHeartbeats 8000000
def lawView : Program := { PySem.Challenge.pw_pc0375_01 with main := { PySem.Challenge.pw_pc0375_01.main with body := ((((((PySem.Challenge.pw_pc0375_01.main.body.eraseIdx 26).eraseIdx 23).eraseIdx 18).eraseIdx 14).eraseIdx 10).eraseIdx 2) } }
theorem said_meet : (PySem.W.Fast.tw17119622794617984870 PySem.Challenge.pw_pc0375_01 PySem.Challenge.pw_pc0375_01.main.body fun _ n => PySem.W.Fast.tw17868728402115742887 n) = true := by
  kernel_rfl
theorem said_resolve : PySem.W.Fast.tw8377067652309620493 PySem.Challenge.pw_pc0375_01 = true := by
  kernel_rfl
theorem said_looks : PySem.W.Fast.tw12908688711261696721 PySem.Challenge.pw_pc0375_01 = true := by
  unfold PySem.W.Fast.tw12908688711261696721
  rw [said_meet, said_resolve]
  kernel_rfl
theorem said_row : PySem.W.Fast.tw17960256430627541270 (PySem.W.Fast.tw2368527892694137696 PySem.Challenge.rw_pc0375_01) = true := by
  unfold PySem.W.Fast.tw17960256430627541270 PySem.W.Fast.tw2436336058641802641
  rw [show (PySem.W.Fast.tw2368527892694137696 PySem.Challenge.rw_pc0375_01).prog = PySem.Challenge.pw_pc0375_01 by kernel_rfl]
  rw [said_looks]
  kernel_rfl
theorem law_said : PySem.Challenge.rw_pc0375_01.wellSaid = true := by
  rw [PySem.W.Fast.te9446332074065402090]
  unfold PySem.W.Fast.tw9446332074065402090
  rw [said_row]
  kernel_rfl
def runT (ok : Thread → Bool) (st : SharedT → Thread → Option (SharedT × Thread)) : Nat → SharedT → Thread → Option SharedT
  | 0, _, _ => none
  | n + 1, s, t => bif through t then some s else bif ok t then (st s t).bind fun x => runT ok st n x.1 x.2 else none
theorem runT_spec {p : Program} {w : World} {n₀ : Nat} {ann : Option Value} (n : Nat) : ∀ (s s' : SharedT) (t : Thread), runT (stepOk n₀ ann) (stepT (denote treeTable) p w) n s t = some s' → topRun treeTable p w n₀ ann n s.abs t = some s'.abs := by
  induction n with
  | zero => exact fun _ _ _ (h : none = some _) => nomatch h
  | succ n ih =>
    intro s s' t h
    simp only [runT] at h
    simp only [topRun]
    generalize through t = b at h ⊢
    generalize stepOk n₀ ann t = b' at h ⊢
    cases b
    · cases b'
      · exact absurd h (by simp)
      · obtain ⟨x, e, h⟩ := Option.bind_eq_some_iff.mp h
        simp only [stepT_spec e]
        exact ih _ _ _ h
    · exact congrArg (Option.map SharedT.abs) h
def treeOf (l : List Obj) : BT := (l.foldl (fun (x : BT × Nat) o => (x.1.ins x.2 o, x.2 + 1)) (BT.nil, 0)).1
noncomputable def bootT (P : Params) (os : OsState) : SharedT := ⟨treeOf (boot_heap P).objs.toList, (boot_heap P).objs.size, (boot_heap P).life, Array.mk [], boot_drawn, boot_toks, os⟩
theorem boot_abs (P : Params) (os : OsState) : (bootT P os).abs = ⟨boot_heap P, Array.mk [], boot_drawn, boot_toks, os⟩ := by kernel_rfl
theorem bsz (P : Params) : ((boot_heap P).isNs mainGlobals, (boot_heap P).objs.size, (boot_heap P).nsMap mainGlobals (Str.ofString "__annotations__")) = (true, 11, some (.ref 6)) := by
  rw [PySem.W.Fast.te8920871248978507458]
  kernel_rfl
noncomputable abbrev ran (w : World) (os : OsState) : Option SharedT := runT (stepOk 11 (some (.ref 6))) (stepT (denote treeTable) PySem.Challenge.pw_pc0375_01 w) 5134 (bootT w.params os) (topStub PySem.Challenge.pw_pc0375_01)
theorem top_left {α β : Type} (f : Shared → α) (g : Shared → β) (a : α) (b : β) (w : World)
    (h1 : ∀ os, Option.map (fun s : SharedT => (staticsOk (importedModules PySem.Challenge.pw_pc0375_01.main.body) (boot_heap w.params) s.abs.heap && namesBound PySem.Challenge.pw_pc0375_01 s.abs.heap && gensDone s.abs && laidKept (boot_heap w.params) s.abs.heap)) (ran w os) = some true)
    (h2 : ∀ os, Option.map (fun s : SharedT => f s.abs) (ran w os) = some a) (h3 : ∀ os, Option.map (fun s : SharedT => g s.abs) (ran w os) = some b) :
    Option.map (fun s => (f s, g s)) (openEnds treeTable PySem.Challenge.pw_pc0375_01 w 5134) = some (a, b) := by
  obtain ⟨⟨h, gs, d, k, os⟩, e, e'⟩ := Option.map_eq_some_iff.mp (boot_open (p := PySem.Challenge.pw_pc0375_01) (N := 5134) (by kernel_rfl) (by kernel_rfl) (fun _ => by kernel_rfl) w)
  simp only [Prod.mk.injEq] at e'
  obtain ⟨rfl, rfl, rfl, rfl⟩ := e'
  obtain ⟨s, x, x'⟩ := Option.map_eq_some_iff.mp (h1 os)
  have y2 := h2 os
  have y3 := h3 os
  rw [x, Option.map_some, Option.some.injEq] at y2 y3
  have z := runT_spec _ _ _ _ x
  rw [boot_abs] at z
  obtain ⟨z1, z2, z3⟩ : _ ∧ _ ∧ _ := by simpa only [Prod.mk.injEq] using bsz w.params
  unfold openEnds
  rw [e, Option.bind_some]
  unfold topFrom
  dsimp only
  rw [z1, z2, z3, z]
  show Option.map _ (match staticsOk (importedModules PySem.Challenge.pw_pc0375_01.main.body) (boot_heap w.params) s.abs.heap && namesBound PySem.Challenge.pw_pc0375_01 s.abs.heap && gensDone s.abs && laidKept (boot_heap w.params) s.abs.heap with | true => _ | false => _) = _
  rw [x']
  exact congrArg some (Prod.ext y2 y3)
theorem look1 (w : World) (os : OsState) : Option.map (fun s : SharedT => (staticsOk (importedModules PySem.Challenge.pw_pc0375_01.main.body) (boot_heap w.params) s.abs.heap && namesBound PySem.Challenge.pw_pc0375_01 s.abs.heap && gensDone s.abs && laidKept (boot_heap w.params) s.abs.heap)) (ran w os) = some true := by
  unfold ran
  rw [PySem.W.Fast.te14364793385576792824, PySem.W.Fast.te10156331382660048174, PySem.W.Fast.te11892475500146522536, PySem.W.Fast.te6613529449190102663]
  kernel_rfl
theorem look2 (w : World) (os : OsState) : Option.map (fun s : SharedT => openSeen lawView [Str.ofString "SettingError"] (importedModules PySem.Challenge.rw_pc0375_01.row.prog.main.body) (fun s => xlAt lawView [] s && recOk PySem.Challenge.rw_pc0375_01.row.records s) true s.abs) (ran w os) = some (openGood lawView [Str.ofString "SettingError"]) := by
  unfold ran
  rw [PySem.W.Fast.te14364793385576792824, PySem.W.Fast.te10156331382660048174, PySem.W.Fast.te11892475500146522536, PySem.W.Fast.te6613529449190102663, PySem.W.Fast.te4187177175401517315]
  kernel_rfl
theorem names_ok : namesOk lawView (looseW lawView [Str.ofString "SettingError"]) (namesW lawView [Str.ofString "SettingError"]) = true := by
  rw [PySem.W.Fast.te17448422675489707002]
  kernel_rfl
theorem imports_none : importsNone lawView = true := by
  rw [PySem.W.Fast.te2458874890965802552]
  kernel_rfl
local macro_rules | `(tactic| o_head $H) => do
  let (hl, hw, hc) := (Lean.mkIdent `hl, Lean.mkIdent `hw, Lean.mkIdent `hc)
  `(tactic| (
    refine holds_open (q := lawView) (loose := [Str.ofString "SettingError"]) (Xt := fun s => xlAt lawView [] s && recOk (RowW.records PySem.Challenge.rw_pc0375_01.row.toRowW) s) (XP := XL lawView []) (Yf := Hook.obs $H) (Ya := Hook.val $H) (YP := Hook.says $H) (N := 5134) ?$hl (Hook.of $H) (Hook.keeps $H) (fun s e => xl_of s (Bool.and_eq_true_iff.mp e).1) XL.keeps (by rfl) (by rfl) (by rfl) (fun s e => recFacts_of (Bool.and_eq_true_iff.mp e).2) (by rfl) (by first | assumption | decide +kernel) (by decide +kernel) ⟨rfl, rfl, rfl, rfl, rfl, by decide +kernel⟩ ?$hw ?$hc
    focus (intro w; refine top_left _ _ _ _ w (look1 w) ?_ ?_; (intro os; with_reducible exact look2 w os); (intro os; unfold ran; rw [PySem.W.Fast.te14364793385576792824, PySem.W.Fast.te10156331382660048174, PySem.W.Fast.te11892475500146522536, PySem.W.Fast.te6613529449190102663]; kernel_rfl))))
local macro_rules | `(tactic| o_law) => `(tactic| refine holds_law law_said fun said => ?_)
open_top hd for PySem.Challenge.rw_pc0375_01
end
section
open PySem PySem.W PySem.Calls PyProof.Rows
set_option maxRecDepth 100000
set_option maxHeartbeats 8000000
set_option linter.unusedVariables false
abbrev FM := Addr → Option Obj
def FM.le (z z' : FM) : Prop := ∀ a o, z a = some o → z' a = some o
theorem FM.le.refl (z : FM) : FM.le z z := fun _ _ e => e
theorem FM.le.trans {z z' z'' : FM} (x : FM.le z z') (y : FM.le z' z'') : FM.le z z'' := fun a o e => y a o (x a o e)
def FM.put (z : FM) (a : Addr) (o : Obj) : FM := fun b => if b = a then some o else z b
theorem FM.put_self {z : FM} {a : Addr} {o : Obj} : z.put a o a = some o := if_pos rfl
theorem FM.put_other {z : FM} {a b : Addr} {o : Obj} (h : b ≠ a) : z.put a o b = z b := if_neg h
theorem FM.le_put {z : FM} {a : Addr} {o : Obj} (h : z a = none) : FM.le z (z.put a o) := fun b x e => by
  have : b ≠ a := fun q => by rw [q, h] at e; cases e
  rw [FM.put_other this]; exact e
abbrev PG : Program := PySem.Challenge.rw_pc0375_01.row.prog
structure Cx where
  w : World
  H : Heap
  s0 : Shared
  mg : Str → Option Value
  mb : Str → Option Value
structure Cx.Ok (c : Cx) : Prop where
  K : (hd.heap_1 c.w.params).In c.H
  g : c.H.Ns mainGlobals c.mg
  b : c.H.Ns builtinsNs c.mb
  nolimit : c.H.NoLimit
  builtins : ∀ x : Str, x ≠ "__name__" → c.mb x = bootBuiltins x
abbrev W (c : Cx) (A : Around) {α : Type} (t : Sem α) (Q : α → Shared → Prop) (s : Shared) : Prop := wpAny (model PG c.w) A t Q (fun _ _ => False) s
theorem W.any {c : Cx} {A : Around} {α : Type} {t : Sem α} {Q : α → Shared → Prop} {E : Value → Shared → Prop} {s : Shared} (h : W c A t Q s) : wpAny (model PG c.w) A t Q E s :=
  wpAny_mono h (fun _ _ x => x) fun _ _ x => x.elim
theorem W.mono {c : Cx} {A : Around} {α : Type} {t : Sem α} {Q Q' : α → Shared → Prop} {s : Shared} (h : W c A t Q s) (k : ∀ a s, Q a s → Q' a s) : W c A t Q' s :=
  wpAny_mono h k fun _ _ x => x.elim
def Room (A : Around) (n : Nat) : Prop := A.handled = none ∧ A.depth + n < recursionLimit ∧ A.units + 64 * n + 64 < cLine
theorem Room.le {A : Around} {n k : Nat} (R : Room A n) (h : k ≤ n) : Room A k := ⟨R.1, by have := R.2.1; omega, by have := R.2.2; omega⟩
theorem Room.deeper {A : Around} {n : Nat} {env : Env} (R : Room A (n + 1)) : Room (A.deeper env) n :=
  ⟨R.1, by have := R.2.1; show A.depth + 1 + n < _; omega, by have := R.2.2; show A.units + 3 + 64 * n + 64 < _; omega⟩
structure S (c : Cx) (z y : FM) (L : Addr) (m : Str → Option Value) (ls : List (Addr × Obj)) (s : Shared) : Prop where
  same : s.gens = c.s0.gens ∧ s.drawn = c.s0.drawn ∧ s.os = c.s0.os
  base : ∀ a o, c.H.get? a = some o → z a = some o
  fz : ∀ a o, z a = some o → s.heap.get? a = some o
  fy : ∀ a o, y a = some o → s.heap.get? a = some o
  zy : ∀ a o, z a = some o → y a = none
  ns : s.heap.Ns L m
  zL : z L = none
  yL : y L = none
  lv : ∀ p ∈ ls, s.heap.get? p.1 = some p.2 ∧ p.1 ≠ L ∧ z p.1 = none ∧ y p.1 = none
  nd : (ls.map (·.1)).Nodup
section
variable {c : Cx} {z y : FM} {L : Addr} {m : Str → Option Value} {ls : List (Addr × Obj)} {s : Shared}
theorem S.keepsTo (h : S c z y L m ls s) {h' : Heap} {t : Nat} (k : ∀ b o, s.heap.get? b = some o → h'.get? b = some o) : S c z y L m ls { s with heap := h', toks := t } where
  same := h.same
  base := h.base
  fz := fun a o e => k a o (h.fz a o e)
  fy := fun a o e => k a o (h.fy a o e)
  zy := h.zy
  ns := h.ns.keeps k
  zL := h.zL
  yL := h.yL
  lv := fun p hp => ⟨k _ _ (h.lv p hp).1, (h.lv p hp).2⟩
  nd := h.nd
theorem S.toks (h : S c z y L m ls s) {t : Nat} : S c z y L m ls { s with toks := t } := h.keepsTo fun _ _ e => e
theorem S.pushed (h : S c z y L m ls s) (o : Obj) {t : Nat} : S c z y L m ls { s with heap := s.heap.push o, toks := t } := h.keepsTo fun _ _ e => Heap.get?_push_of_some o e
theorem S.none_of (h : S c z y L m ls s) {a : Addr} (e : s.heap.get? a = none) : z a = none ∧ y a = none ∧ a ≠ L ∧ a ∉ ls.map (·.1) := by
  refine ⟨?_, ?_, ?_, ?_⟩
  · cases q : z a with
    | none => rfl
    | some o => rw [h.fz a o q] at e; cases e
  · cases q : y a with
    | none => rfl
    | some o => rw [h.fy a o q] at e; cases e
  · rintro rfl
    obtain ⟨o, _, _, ho, _⟩ := h.ns
    rw [ho] at e; cases e
  · intro q
    obtain ⟨p, hp, rfl⟩ := List.mem_map.mp q
    rw [(h.lv p hp).1] at e; cases e
theorem fresh_none (h : Heap) : h.get? h.objs.size = none := by
  cases q : h.get? h.objs.size with
  | none => rfl
  | some o => exact absurd (Heap.lt_size q) (Nat.lt_irrefl _)
theorem S.alloc (h : S c z y L m ls s) (o : Obj) (hf : o.isFreed = false := by rfl) {t : Nat} : S c z y L m ((s.heap.objs.size, o) :: ls) { s with heap := s.heap.push o, toks := t } := by
  have k := h.pushed o (t := t)
  obtain ⟨n1, n2, n3, n4⟩ := h.none_of (fresh_none s.heap)
  exact { k with
    lv := fun p hp => (List.mem_cons.mp hp).elim (fun e => by subst e; exact ⟨Heap.get?_push_size _ hf, n3, n1, n2⟩) (k.lv p)
    nd := List.nodup_cons.mpr ⟨n4, h.nd⟩ }
theorem S.freeze {a : Addr} {o : Obj} (h : S c z y L m ((a, o) :: ls) s) : S c (z.put a o) y L m ls s where
  same := h.same
  base := fun b x e => (FM.le_put (h.lv _ (.head _)).2.2.1) b x (h.base b x e)
  fz := fun b x e => by
    by_cases q : b = a
    · subst q; rw [FM.put_self] at e; cases e; exact (h.lv _ (.head _)).1
    · rw [FM.put_other q] at e; exact h.fz b x e
  fy := h.fy
  zy := fun b x e => by
    by_cases q : b = a
    · subst q; exact (h.lv _ (.head _)).2.2.2
    · rw [FM.put_other q] at e; exact h.zy b x e
  ns := h.ns
  zL := by rw [FM.put_other (Ne.symm (h.lv _ (.head _)).2.1)]; exact h.zL
  yL := h.yL
  lv := fun p hp => by
    obtain ⟨a1, a2, a3, a4⟩ := h.lv p (.tail _ hp)
    have hn : p.1 ≠ a := fun q => (List.nodup_cons.mp h.nd).1 (List.mem_map.mpr ⟨p, hp, q⟩)
    exact ⟨a1, a2, by rw [FM.put_other hn]; exact a3, a4⟩
  nd := (List.nodup_cons.mp h.nd).2
theorem S.le_freeze {a : Addr} {o : Obj} (h : S c z y L m ((a, o) :: ls) s) : FM.le z (z.put a o) := FM.le_put (h.lv _ (.head _)).2.2.1
theorem S.allocZ (h : S c z y L m ls s) (o : Obj) (hf : o.isFreed = false := by rfl) {t : Nat} :
    FM.le z (z.put s.heap.objs.size o) ∧ S c (z.put s.heap.objs.size o) y L m ls { s with heap := s.heap.push o, toks := t } :=
  ⟨(h.alloc o hf (t := t)).le_freeze, (h.alloc o hf).freeze⟩
theorem S.perm {ls' : List (Addr × Obj)} (h : S c z y L m ls s) (p : ls'.Perm ls) : S c z y L m ls' s :=
  { h with lv := fun q hq => h.lv q (p.mem_iff.mp hq), nd := (p.map _).nodup_iff.mpr h.nd }
theorem S.drop {l : Addr × Obj} (h : S c z y L m (l :: ls) s) : S c z y L m ls s :=
  { h with lv := fun q hq => h.lv q (.tail _ hq), nd := (List.nodup_cons.mp h.nd).2 }
theorem S.changed {a : Addr} {o o' : Obj} (h : S c z y L m ((a, o) :: ls) s) {h' : Heap} {t : Nat} (e : h'.get? a = some o') (k : ∀ b x, b ≠ a → s.heap.get? b = some x → h'.get? b = some x) :
    S c z y L m ((a, o') :: ls) { s with heap := h', toks := t } := by
  have A := h.lv _ (.head _)
  have na : ∀ {b : Addr} {x : Obj} {f : FM}, f b = some x → f a = none → b ≠ a := fun e n q => by rw [q, n] at e; cases e
  exact {
    same := h.same
    base := h.base
    fz := fun b x e' => k b x (na e' A.2.2.1) (h.fz b x e')
    fy := fun b x e' => k b x (na e' A.2.2.2) (h.fy b x e')
    zy := h.zy
    ns := h.ns.at' fun x e' => k _ _ (Ne.symm A.2.1) e'
    zL := h.zL
    yL := h.yL
    lv := fun p hp => (List.mem_cons.mp hp).elim (fun q => by subst q; exact ⟨e, A.2⟩) fun q => by
      have P := h.lv p (.tail _ q)
      exact ⟨k _ _ (fun q' => (List.nodup_cons.mp h.nd).1 (List.mem_map.mpr ⟨p, q, q'⟩)) P.1, P.2⟩
    nd := h.nd }
theorem S.updated {a : Addr} {o : Obj} {f : Obj → Obj} (h : S c z y L m ((a, o) :: ls) s) (hf : (f o).isFreed = false := by rfl) {t : Nat} :
    S c z y L m ((a, f o) :: ls) { s with heap := s.heap.update a f, toks := t } :=
  h.changed (Heap.get?_update_self f (h.lv _ (.head _)).1 hf) fun _ _ n e => (Heap.get?_update_other _ f (Ne.symm n)).trans e
theorem S.bound (h : S c z y L m ls s) {h' : Heap} {t : Nat} {m' : Str → Option Value} (hn : h'.Ns L m') (hs : Heap.SameBut L s.heap h') : S c z y L m' ls { s with heap := h', toks := t } := by
  have na : ∀ {b : Addr} {x : Obj} {f : FM}, f b = some x → f L = none → b ≠ L := fun e n q => by rw [q, n] at e; cases e
  exact {
    same := h.same
    base := h.base
    fz := fun b x e' => (hs.2 b (na e' h.zL)).trans (h.fz b x e')
    fy := fun b x e' => (hs.2 b (na e' h.yL)).trans (h.fy b x e')
    zy := h.zy
    ns := hn
    zL := h.zL
    yL := h.yL
    lv := fun p hp => ⟨(hs.2 _ (h.lv p hp).2.1).trans (h.lv p hp).1, (h.lv p hp).2⟩
    nd := h.nd }
end
end
section
open PySem PySem.W PySem.Calls PyProof.Rows
set_option maxRecDepth 100000
set_option maxHeartbeats 8000000
set_option linter.unusedVariables false
def upd (m : Str → Option Value) (x : Str) (v : Value) : Str → Option Value := fun y => if y = x then some v else m y
theorem upd_eq {m : Str → Option Value} {x : Str} {v : Value} : upd m x v x = some v := if_pos rfl
theorem upd_ne {m : Str → Option Value} {x y : Str} {v : Value} {r : Option Value} (h : y ≠ x) (e : m y = r) : upd m x v y = r := (if_neg h).trans e
def no : Str → Option Value := fun _ => none
def updsOf (m : Str → Option Value) : List (Str × Value) → Str → Option Value
  | [] => m
  | b :: r => updsOf (upd m b.1 b.2) r
theorem updsOf_eq : ∀ (l : List (Str × Value)) (m : Str → Option Value) (x : Str), updsOf m l x = (l.reverse.lookup x).or (m x)
  | [], m, x => by simp [updsOf]
  | b :: r, m, x => by
    rw [updsOf, updsOf_eq r, List.reverse_cons, List.lookup_append, Option.or_assoc]
    congr 1
    obtain ⟨k, v⟩ := b
    simp only [List.lookup_cons, List.lookup_nil, upd]
    by_cases h : x = k
    · subst h; simp
    · have : (x == k) = false := beq_eq_false_iff_ne.mpr h
      simp [this, h]
theorem updsOf_no (l : List (Str × Value)) : (fun x => l.reverse.lookup x) = updsOf no l := by
  funext x; rw [updsOf_eq]; simp [no]
def retOf : Flow → Value
  | .ret v => v
  | _ => .none
def Ret (c : Cx) (z y : FM) (L : Addr) (Out : FM → Value → List (Addr × Obj) → Prop) (fl : Flow) (s : Shared) : Prop :=
  ∃ z' ls' m', FM.le z z' ∧ Out z' (retOf fl) ls' ∧ S c z' y L m' ls' s
def Fn (c : Cx) (n : Nat) (z : FM) (f : Addr) (args : List Value) (kw : List (Str × Value)) (ls : List (Addr × Obj)) (Out : FM → Value → List (Addr × Obj) → Prop) : Prop :=
  ∀ (A : Around) (y : FM) (L : Addr) (m : Str → Option Value) (rest : List (Addr × Obj)) (s : Shared) (Q : Result → Shared → Prop), Room A n → S c z y L m (ls ++ rest) s →
    (∀ r z' ls' s', FM.le z z' → Out z' r ls' → S c z' y L m (ls' ++ rest) s' → Q (.ok (.ret r)) s') → codeAny (model PG c.w) A (.call (.ref f) ⟨args, kw⟩) Q s
def keptBut (h : Heap) (z : FM) (ls : List (Addr × Obj)) : FM := fun b => match z b with
  | some _ => none
  | none => if b ∈ ls.map (·.1) then none else h.get? b
section
variable {c : Cx} {z y : FM} {L : Addr} {m : Str → Option Value} {ls rest : List (Addr × Obj)} {s : Shared}
theorem keptBut_some {h : Heap} {b : Addr} {o : Obj} (e : keptBut h z ls b = some o) : z b = none ∧ b ∉ ls.map (·.1) ∧ h.get? b = some o := by
  unfold keptBut at e
  cases q : z b with
  | some x => rw [q] at e; cases e
  | none =>
    rw [q] at e
    dsimp only at e
    split at e
    · cases e
    · rename_i n; exact ⟨rfl, n, e⟩
theorem keptBut_of {h : Heap} {b : Addr} {o : Obj} (e : h.get? b = some o) (e1 : z b = none) (e2 : b ∉ ls.map (·.1)) : keptBut h z ls b = some o := by
  unfold keptBut; rw [e1]; dsimp only; rw [if_neg e2]; exact e
theorem S.enter (h : S c z y L m (ls ++ rest) s) {h₁ : Heap} {t : Nat} {m₀ : Str → Option Value} (hns : h₁.Ns s.heap.objs.size m₀) (hk : ∀ b o, s.heap.get? b = some o → h₁.get? b = some o) :
    S c z (keptBut s.heap z ls) s.heap.objs.size m₀ ls { s with heap := h₁, toks := t } where
  same := h.same
  base := h.base
  fz := fun a o e => hk a o (h.fz a o e)
  fy := fun a o e => hk a o (keptBut_some e).2.2
  zy := fun a o e => by unfold keptBut; rw [e]
  ns := hns
  zL := (h.none_of (fresh_none s.heap)).1
  yL := by
    cases q : keptBut s.heap z ls s.heap.objs.size with
    | none => rfl
    | some o => exact absurd (Heap.lt_size (keptBut_some q).2.2) (Nat.lt_irrefl _)
  lv := fun p hp => by
    have P := h.lv p (List.mem_append_left _ hp)
    refine ⟨hk _ _ P.1, Nat.ne_of_lt (Heap.lt_size P.1), P.2.2.1, ?_⟩
    cases q : keptBut s.heap z ls p.1 with
    | none => rfl
    | some o => exact absurd (List.mem_map_of_mem hp) (keptBut_some q).2.1
  nd := by have := h.nd; rw [List.map_append] at this; exact (List.nodup_append.mp this).1
theorem S.leave (h : S c z y L m (ls ++ rest) s) {z' : FM} {L' : Addr} {m' : Str → Option Value} {ls' : List (Addr × Obj)} {s' : Shared} (h' : S c z' (keptBut s.heap z ls) L' m' ls' s') :
    S c z' y L m (ls' ++ rest) s' := by
  have nd := h.nd
  rw [List.map_append] at nd
  have disj := (List.nodup_append.mp nd).2.2
  have keep : ∀ b o, s.heap.get? b = some o → z b = none → b ∉ ls.map (·.1) → s'.heap.get? b = some o ∧ z' b = none ∧ b ∉ ls'.map (·.1) := fun b o e e1 e2 => by
    have k := keptBut_of e e1 e2
    refine ⟨h'.fy b o k, ?_, fun q => ?_⟩
    · cases q : z' b with
      | none => rfl
      | some x => rw [h'.zy b x q] at k; cases k
    · obtain ⟨p, hp, rfl⟩ := List.mem_map.mp q
      rw [(h'.lv p hp).2.2.2] at k; cases k
  have yl : ∀ b o, y b = some o → s.heap.get? b = some o ∧ z b = none ∧ b ∉ ls.map (·.1) := fun b o e => by
    refine ⟨h.fy b o e, ?_, fun q => ?_⟩
    · cases q : z b with
      | none => rfl
      | some x => rw [h.zy b x q] at e; cases e
    · obtain ⟨p, hp, rfl⟩ := List.mem_map.mp q
      rw [(h.lv p (List.mem_append_left _ hp)).2.2.2] at e; cases e
  obtain ⟨oL, es, ep, hL, hr⟩ := h.ns
  have nL : L ∉ ls.map (·.1) := fun q => by
    obtain ⟨p, hp, e⟩ := List.mem_map.mp q
    exact (h.lv p (List.mem_append_left _ hp)).2.1 e
  have kL := keep L oL hL h.zL nL
  have kr : ∀ p ∈ rest, s'.heap.get? p.1 = some p.2 ∧ z' p.1 = none ∧ p.1 ∉ ls'.map (·.1) := fun p hp => by
    have P := h.lv p (List.mem_append_right _ hp)
    exact keep p.1 p.2 P.1 P.2.2.1 fun q => disj p.1 q p.1 (List.mem_map_of_mem hp) rfl
  exact {
    same := h'.same
    base := h'.base
    fz := h'.fz
    fy := fun b o e => (keep b o (yl b o e).1 (yl b o e).2.1 (yl b o e).2.2).1
    zy := fun b o e => by
      cases q : y b with
      | none => rfl
      | some x => have := (keep b x (yl b x q).1 (yl b x q).2.1 (yl b x q).2.2).2.1; rw [e] at this; cases this
    ns := ⟨oL, es, ep, kL.1, hr⟩
    zL := kL.2.1
    yL := h.yL
    lv := fun p hp => (List.mem_append.mp hp).elim
      (fun q => ⟨(h'.lv p q).1, fun e => kL.2.2 (e ▸ List.mem_map_of_mem q), (h'.lv p q).2.2.1, by
        cases q' : y p.1 with
        | none => rfl
        | some x => exact absurd (List.mem_map_of_mem q) (keep p.1 x (yl p.1 x q').1 (yl p.1 x q').2.1 (yl p.1 x q').2.2).2.2⟩)
      fun q => ⟨(kr p q).1, (h.lv p (List.mem_append_right _ q)).2.1, (kr p q).2.1, (h.lv p (List.mem_append_right _ q)).2.2.2⟩
    nd := by
      rw [List.map_append]
      refine List.nodup_append.mpr ⟨h'.nd, (List.nodup_append.mp nd).2.1, fun a ha b hb e => ?_⟩
      obtain ⟨p, hp, rfl⟩ := List.mem_map.mp hb
      exact (kr p hp).2.2 (e ▸ ha) }
theorem S.inH (h : S c z y L m ls s) : ∀ b o, c.H.get? b = some o → s.heap.get? b = some o := fun b o e => h.fz b o (h.base b o e)
theorem S.K (h : S c z y L m ls s) (ok : c.Ok) : (hd.heap_1 c.w.params).In s.heap := ok.K.keeps h.inH
theorem S.Kz (h : S c z y L m ls s) (ok : c.Ok) {a : Addr} {o : Obj} (e : (hd.heap_1 c.w.params).lookup a = some o) : z a = some o := h.base a o (ok.K a o e)
theorem S.nolimit (h : S c z y L m ls s) (ok : c.Ok) : s.heap.NoLimit := ok.nolimit.keeps h.inH
end
section
variable {c : Cx} {n : Nat} {z : FM} {f : Addr} {args : List Value} {kw : List (Str × Value)} {ls : List (Addr × Obj)} {Out : FM → Value → List (Addr × Obj) → Prop}
  {name qual : Str} {params : Arguments} {body : List Stmt} {scope : Scope} {dV kV doc pm cdv ct oc : Value} {an od : Option Addr} {osl : Array (Option Value)} {binds : List (Str × Value)}
theorem Fn.plain (ok : c.Ok) (ho : (hd.heap_1 c.w.params).lookup f = some ⟨oc, od, .func (fnX name qual params body scope [] dV kV doc pm an cdv ct), osl⟩) (hcd : codeIn (hd.heap_1 c.w.params) cdv qual = true)
    (hbind : ∀ s : Shared, (hd.heap_1 c.w.params).In s.heap → BindsTo s (fnX name qual params body scope [] dV kV doc pm an cdv ct) ⟨args, kw⟩ binds)
    (hloc : ∀ x ∈ binds, scope.names.lookup x.1 = some .local) (hcell : ∀ x ∈ scope.names, x.2 ≠ .cell)
    (hco : scope.isCoroutine = false) (hgen : scope.isGenerator = false) (hk : scope.kind = .function)
    (h : ∀ A y L s, Room A n → S c z y L (updsOf no binds) ls s → W c A (execs body (envX qual scope L f cdv [])) (Ret c z y L Out) s) : Fn c (n + 1) z f args kw ls Out := by
  intro A y L m rest s Q R hS hQ
  refine (codeAny_call_def (fd := fnX name qual params body scope [] dV kV doc pm an cdv ct) (body := body) (binds := binds) (by have := R.2.1; omega) (hS.K ok _ _ ho) rfl (hS.nolimit ok) (codeRec_of (hS.K ok) hcd) rfl (hbind s (hS.K ok)) hcell hloc (fun h₁ hns hk₁ => ?_) hco hgen hk)
  refine wpAny_mono (h _ _ _ _ (Room.deeper R) (hS.enter (updsOf_no binds ▸ hns) hk₁)) (fun fl s' hr => ?_) fun _ _ x => x.elim
  obtain ⟨z', ls', m', hz, ho', hS'⟩ := hr
  have := hQ (retOf fl) z' ls' s' hz ho' (hS.leave hS')
  cases fl <;> exact this
end
end
section
open PySem PySem.W PySem.Calls PyProof.Rows
set_option maxRecDepth 100000
set_option maxHeartbeats 8000000
set_option linter.unusedVariables false
abbrev tupO (vs : List Value) : Obj := { cls := .type "tuple", data := .seq vs.toArray }
abbrev lstO (vs : List Value) (n : Nat) : Obj := { cls := .type "list", data := .seq vs.toArray n }
section
variable {c : Cx} {A : Around} {z y : FM} {L a : Addr} {m : Str → Option Value} {ls : List (Addr × Obj)} {s : Shared} {cn : Str} {cs : Scope} {ccd : Value} {cl : List (Str × Addr)}
theorem zNameL {x : Str} {pos : Pos} {v : Value} {Q : Value → Shared → Prop} (hS : S c z y L m ls s) (hv : m x = some v) (h : Q v s)
    (hk : cs.kind = .function := by rfl) (hx : (envX cn cs L a ccd cl).kindOf x = some .local := by rfl) (hd : (x == ("__debug__" : Str)) = false := by decide) :
    W c A (eval (.Name x pos) (envX cn cs L a ccd cl)) Q s := wpAny_Name (wpAny_loadName_local hk hx hS.ns hv h) hd
theorem zNameG {x : Str} {pos : Pos} {v : Value} {Q : Value → Shared → Prop} (ok : c.Ok) (hS : S c z y L m ls s) (e : nsIn (hd.heap_1 c.w.params) mainGlobals x = some (some v)) (h : Q v s)
    (hk : cs.kind = .function := by rfl) (hx : (envX cn cs L a ccd cl).kindOf x = some .globalImplicit := by rfl) (hd : (x == ("__debug__" : Str)) = false := by decide) :
    W c A (eval (.Name x pos) (envX cn cs L a ccd cl)) Q s :=
  Name_function_global hk hx (loadGlobal_global (env := envX cn cs L a ccd cl) (ok.g.keeps hS.inH) (mg_of ok.K ok.g e) h) hd
theorem zNameB {x : Str} {pos : Pos} {v : Value} {Q : Value → Shared → Prop} (ok : c.Ok) (hS : S c z y L m ls s) (e : nsIn (hd.heap_1 c.w.params) mainGlobals x = some none) (hv : bootBuiltins x = some v) (h : Q v s)
    (hn : x ≠ "__name__" := by decide) (hk : cs.kind = .function := by rfl) (hx : (envX cn cs L a ccd cl).kindOf x = some .globalImplicit := by rfl) (hd : (x == ("__debug__" : Str)) = false := by decide) :
    W c A (eval (.Name x pos) (envX cn cs L a ccd cl)) Q s :=
  Name_function_global hk hx (loadGlobal_builtin (env := envX cn cs L a ccd cl) (ok.g.keeps hS.inH) (mg_none_of ok.K ok.g e) (ok.b.keeps hS.inH) ((ok.builtins x hn).trans hv) h) hd
theorem zStoreL {x : Str} {v : Value} {Q : Unit → Shared → Prop} (hS : S c z y L m ls s) (h : ∀ s', S c z y L (upd m x v) ls s' → Q () s')
    (hk : cs.kind = .function := by rfl) (hx : (envX cn cs L a ccd cl).kindOf x = some .local := by rfl) : W c A (storeName (envX cn cs L a ccd cl) x v) Q s :=
  wpAny_storeName_local hx hS.ns (fun h' hn hs => h _ (hS.bound hn hs)) (by show (cs.kind == .class || (cs.kind == .module && L != mainGlobals)) = false; rw [hk]; rfl)
theorem zInt {i : Int} {k : Nat} {pos : Pos} {env : Env} {Q : Value → Shared → Prop} (hS : S c z y L m ls s) (h : ∀ t s', S c z y L m ls s' → Q (.int i t) s') :
    W c A (eval (.Constant (.int i) k pos) env) Q s := wpAny_Constant_int (h _ _ hS.toks)
theorem zStr {x : Str} {k : Nat} {pos : Pos} {env : Env} {Q : Value → Shared → Prop} (hS : S c z y L m ls s) (h : ∀ t s', S c z y L m ls s' → Q (.str x t) s') :
    W c A (eval (.Constant (.str x) k pos) env) Q s := wpAny_Constant_str (h _ _ hS.toks)
theorem zAdd {i j : Int} {t u : Tok} {Q : Value → Shared → Prop} (hS : S c z y L m ls s) (h : ∀ t s', S c z y L m ls s' → Q (.int (i + j) t) s') : W c A (binaryOp .Add (.int i t) (.int j u)) Q s := wpAny_add_int (h _ _ hS.toks)
theorem zSub {i j : Int} {t u : Tok} {Q : Value → Shared → Prop} (hS : S c z y L m ls s) (h : ∀ t s', S c z y L m ls s' → Q (.int (i - j) t) s') : W c A (binaryOp .Sub (.int i t) (.int j u)) Q s := P.sub_int (h _ _ hS.toks)
theorem zAnd {i j : Int} {t u : Tok} {Q : Value → Shared → Prop} (hS : S c z y L m ls s) (h : ∀ t s', S c z y L m ls s' → Q (.int (Builtin.bitAnd i j) t) s') : W c A (binaryOp .BitAnd (.int i t) (.int j u)) Q s := and_int (h _ _ hS.toks)
theorem zXor {i j : Int} {t u : Tok} {Q : Value → Shared → Prop} (hS : S c z y L m ls s) (h : ∀ t s', S c z y L m ls s' → Q (.int (Builtin.bitXor i j) t) s') : W c A (binaryOp .BitXor (.int i t) (.int j u)) Q s := xor_int (h _ _ hS.toks)
theorem zNeg {i : Int} {t : Tok} {Q : Value → Shared → Prop} (hS : S c z y L m ls s) (h : ∀ t s', S c z y L m ls s' → Q (.int (-i) t) s') : W c A (unaryOp .USub (.int i t)) Q s := P.neg_int (h _ _ hS.toks)
theorem zEqI {i j : Int} {t u : Tok} {Q : Value → Shared → Prop} (h : Q (.bool (i == j)) s) : W c A (compareOp .Eq (.int i t) (.int j u)) Q s := P.eq_int h
theorem zNeI {i j : Int} {t u : Tok} {Q : Value → Shared → Prop} (h : Q (.bool (i != j)) s) : W c A (compareOp .NotEq (.int i t) (.int j u)) Q s := P.ne_int h
theorem zLtI {i j : Int} {t u : Tok} {Q : Value → Shared → Prop} (h : Q (.bool (decide (i < j))) s) : W c A (compareOp .Lt (.int i t) (.int j u)) Q s := P.lt_int h
theorem zLeI {i j : Int} {t u : Tok} {Q : Value → Shared → Prop} (h : Q (.bool (decide (i ≤ j))) s) : W c A (compareOp .LtE (.int i t) (.int j u)) Q s := P.le_int h
theorem zGtI {i j : Int} {t u : Tok} {Q : Value → Shared → Prop} (h : Q (.bool (decide (i > j))) s) : W c A (compareOp .Gt (.int i t) (.int j u)) Q s := P.gt_int h
theorem zGeI {i j : Int} {t u : Tok} {Q : Value → Shared → Prop} (h : Q (.bool (decide (i ≥ j))) s) : W c A (compareOp .GtE (.int i t) (.int j u)) Q s := P.ge_int h
theorem zEqS {i j : Str} {t u : Tok} {Q : Value → Shared → Prop} (h : Q (.bool (i == j)) s) : W c A (compareOp .Eq (.str i t) (.str j u)) Q s := PyProof.Rows.eq_str h
theorem zNeS {i j : Str} {t u : Tok} {Q : Value → Shared → Prop} (h : Q (.bool (i != j)) s) : W c A (compareOp .NotEq (.str i t) (.str j u)) Q s := PyProof.Rows.ne_str h
theorem zItemT {value slice : Expr} {t : Addr} {vs : List Value} {k : Int} {u : Tok} {x : Value} {Q : Value → Shared → Prop} (hS : S c z y L m ls s) (ht : z t = some (tupO vs))
    (hx : vs[k.toNat]? = some x) (h : Q x s) (h0 : 0 ≤ k := by decide) (hhi : k < 2 ^ 63 := by decide)
    (hs : subscripted slice false (.ref t) (.int k u) = operate [.ref t, .int k u] (getItem (.ref t) (.int k u)) := by with_unfolding_all rfl) :
    W c A (subscriptTail value slice (.ref t) (.int k u)) Q s := by
  have hl : k.toNat < vs.length := by
    rcases Nat.lt_or_ge k.toNat vs.length with q | q
    · exact q
    · rw [List.getElem?_eq_none q] at hx; cases hx
  exact item_tupleT ⟨_, hS.fz _ _ ht, rfl, 0, rfl⟩ (by omega) hhi (StrLaws.seqIndex_nonneg h0 (by omega)) hx h hs
end
end
section
open PySem PySem.W PySem.Calls PyProof.Rows
set_option maxRecDepth 100000
set_option maxHeartbeats 8000000
set_option linter.unusedVariables false
section
variable {c : Cx} {A : Around} {z y : FM} {L a : Addr} {m : Str → Option Value} {ls : List (Addr × Obj)} {s : Shared} {env : Env}
theorem S.hide {p : Addr} {o : Obj} (h : S c z y L m ((p, o) :: ls) s) : S c z (y.put p o) L m ls s := by
  have P := h.lv _ (.head _)
  exact {
    same := h.same, base := h.base, fz := h.fz
    fy := fun b x e => by
      by_cases q : b = p
      · subst q; rw [FM.put_self] at e; cases e; exact P.1
      · rw [FM.put_other q] at e; exact h.fy b x e
    zy := fun b x e => by
      have q : b ≠ p := fun q => by rw [q, P.2.2.1] at e; cases e
      rw [FM.put_other q]; exact h.zy b x e
    ns := h.ns, zL := h.zL
    yL := by rw [FM.put_other (Ne.symm P.2.1)]; exact h.yL
    lv := fun q hq => by
      have Q := h.lv q (.tail _ hq)
      have n : q.1 ≠ p := fun e => (List.nodup_cons.mp h.nd).1 (List.mem_map.mpr ⟨q, hq, e⟩)
      exact ⟨Q.1, Q.2.1, Q.2.2.1, by rw [FM.put_other n]; exact Q.2.2.2⟩
    nd := (List.nodup_cons.mp h.nd).2 }
theorem S.unhide {p : Addr} {o : Obj} (h : S c z (y.put p o) L m ls s) (hy : y p = none) : S c z y L m ((p, o) :: ls) s := by
  have le : ∀ b x, y b = some x → y.put p o b = some x := FM.le_put hy
  have nn : ∀ b, y.put p o b = none → y b = none ∧ b ≠ p := fun b e => by
    by_cases q : b = p
    · subst q; rw [FM.put_self] at e; cases e
    · rw [FM.put_other q] at e; exact ⟨e, q⟩
  exact {
    same := h.same, base := h.base, fz := h.fz
    fy := fun b x e => h.fy b x (le b x e)
    zy := fun b x e => (nn b (h.zy b x e)).1
    ns := h.ns, zL := h.zL
    yL := (nn L h.yL).1
    lv := fun q hq => (List.mem_cons.mp hq).elim (fun e => by
        subst e
        refine ⟨h.fy _ _ FM.put_self, fun e => ?_, ?_, hy⟩
        · have := h.yL; rw [← e, FM.put_self] at this; cases this
        · cases q : z p with
          | none => rfl
          | some x => have := h.zy p x q; rw [FM.put_self] at this; cases this)
      fun q' => ⟨(h.lv q q').1, (h.lv q q').2.1, (h.lv q q').2.2.1, (nn _ (h.lv q q').2.2.2).1⟩
    nd := List.nodup_cons.mpr ⟨fun e => by
      obtain ⟨q, hq, e⟩ := List.mem_map.mp e
      exact (nn _ (h.lv q hq).2.2.2).2 e, h.nd⟩ }
theorem S.yNone {p : Addr} {o : Obj} (h : S c z y L m ((p, o) :: ls) s) : y p = none := (h.lv _ (.head _)).2.2.2
structure Itr (c : Cx) (z : FM) (I : Addr) (n : Nat) (val : Nat → Value → Prop) (St : Nat → Obj → Prop) : Prop where
  item : ∀ (A : Around) (z1 y : FM) (L : Addr) (m : Str → Option Value) (ls : List (Addr × Obj)) (s : Shared) (o : Obj) (i : Nat) (Q : Option Value → Shared → Prop), A.handled = none → FM.le z z1 →
    S c z1 y L m ((I, o) :: ls) s → St i o → i < n → (∀ v o' s', val i v → St (i + 1) o' → S c z1 y L m ((I, o') :: ls) s' → Q (some v) s') → W c A (pyNext (.ref I)) Q s
  done : ∀ (A : Around) (z1 y : FM) (L : Addr) (m : Str → Option Value) (ls : List (Addr × Obj)) (s : Shared) (o : Obj) (Q : Option Value → Shared → Prop), A.handled = none → FM.le z z1 →
    S c z1 y L m ((I, o) :: ls) s → St n o → (∀ s', S c z1 y L m ls s' → Q none s') → W c A (pyNext (.ref I)) Q s
  go : ∀ (A : Around) (z1 y : FM) (L : Addr) (m : Str → Option Value) (ls : List (Addr × Obj)) (s : Shared) (o : Obj) (i : Nat) (target : Expr) (v : Value) (Q : Unit → Shared → Prop),
    S c z1 y L m ((I, o) :: ls) s → St i o → Q () s → W c A (letOwnedTupleGo target (.ref I) v) Q s
  self : ∀ (A : Around) (z1 y : FM) (L : Addr) (m : Str → Option Value) (ls : List (Addr × Obj)) (s : Shared) (o : Obj) (i : Nat) (Q : Value → Shared → Prop),
    S c z1 y L m ((I, o) :: ls) s → St i o → Q (.ref I) s → W c A (pyIter (.ref I)) Q s
def StList (l : Addr) (i : Nat) (o : Obj) : Prop := o.cls = .type "list_iterator" ∧ o.data = .fields #[.ref l, .int i 0]
def StTup (l : Addr) (i : Nat) (o : Obj) : Prop := o.cls = .type "tuple_iterator" ∧ o.data = .fields #[.ref l, .int i 0]
def StRange (a : Int) (n : Nat) (i : Nat) (o : Obj) : Prop := o = { cls := .type "range_iterator", dict := none, data := .fields #[.int (a + i) 0, .int ((n : Int) - i) 0, .int 1 0], slots := #[] }
theorem S.extOne {p : Addr} {o o' : Obj} (h : S c z y L m ((p, o) :: ls) s) {h' : Heap} {t : Nat} (e : h'.get? p = some o') (k : Heap.ExtBut p s.heap h') : S c z y L m ((p, o') :: ls) { s with heap := h', toks := t } := h.changed e k
theorem S.dropExt {p : Addr} {o : Obj} (h : S c z y L m ((p, o) :: ls) s) {h' : Heap} {t : Nat} (k : Heap.ExtBut p s.heap h') : S c z y L m ls { s with heap := h', toks := t } := by
  have P := h.lv _ (.head _)
  have na : ∀ {b : Addr} {x : Obj} {f : FM}, f b = some x → f p = none → b ≠ p := fun e n q => by rw [q, n] at e; cases e
  exact {
    same := h.same, base := h.base
    fz := fun b x e => k b x (na e P.2.2.1) (h.fz b x e)
    fy := fun b x e => k b x (na e P.2.2.2) (h.fy b x e)
    zy := h.zy
    ns := h.ns.at' fun x e' => k _ _ (Ne.symm P.2.1) e'
    zL := h.zL, yL := h.yL
    lv := fun q hq => ⟨k _ _ (fun e => (List.nodup_cons.mp h.nd).1 (List.mem_map.mpr ⟨q, hq, e⟩)) (h.lv q (.tail _ hq)).1, (h.lv q (.tail _ hq)).2⟩
    nd := (List.nodup_cons.mp h.nd).2 }
theorem go_plain {target : Expr} {I : Addr} {v : Value} {o : Obj} {n : String} {vs : Array Value} {Q : Unit → Shared → Prop} (ho : s.heap.get? I = some o) (hc : o.cls = .type n) (hd : o.data = .fields vs)
    (hn : (["enumerate", "zip", "dict_itemiterator", "dict_reverseitemiterator", "odict_iterator", "itertools.zip_longest", "itertools.pairwise"].contains n) = false) (hQ : Q () s) : W c A (letOwnedTupleGo target (.ref I) v) Q s := by
  have key : ∀ b : Addr, W c A (do
      let o ← load I
      match o.cls, o.data with
      | .type n, .fields vs =>
        if ["enumerate", "zip", "dict_itemiterator", "dict_reverseitemiterator", "odict_iterator", "itertools.zip_longest", "itertools.pairwise"].contains n && vs[0]? == some (rawInt b) then
          rule "for.unpacks-the-owned-tuple"
          updateField I 0 .none
      | _, _ => pure () : Sem Unit) Q s := by
    intro b
    refine wpAny_bind (wpAny_load ho ?_)
    rw [hc, hd]
    dsimp only
    rw [hn]
    exact wpAny_pure hQ
  unfold letOwnedTupleGo
  split
  · cases v <;> first | exact wpAny_pure hQ | exact key _
  · cases v <;> first | exact wpAny_pure hQ | exact key _
  · exact wpAny_pure hQ
theorem isList_of {h : Heap} {l : Addr} {vs : List Value} {n : Nat} (e : h.get? l = some (lstO vs n)) : h.IsList l vs.toArray := ⟨_, e, rfl, n, rfl⟩
theorem isTuple_of {h : Heap} {l : Addr} {vs : List Value} (e : h.get? l = some (tupO vs)) : h.IsTuple l vs.toArray := ⟨_, e, rfl, 0, rfl⟩
theorem Itr.list {l I : Addr} {vs : List Value} {n : Nat} (hl : z l = some (lstO vs n)) : Itr c z I vs.length (fun i v => vs[i]? = some v) (StList l) where
  item := fun A z1 y L m ls s o i Q hh hz hS st hi hQ => by
    have P := hS.lv _ (.head _)
    have e := hS.fz _ _ (hz _ _ hl)
    refine wpAny_pyNext_list_item (x := vs[i]) ⟨o, P.1, st.1, st.2⟩ (isList_of e) (by simp [hi]) fun h' hit' hs' => ?_
    obtain ⟨o', e', hc, hd⟩ := hit'
    exact hQ _ o' _ (by simp [hi]) ⟨hc, hd⟩ (hS.changed e' hs'.extBut)
  done := fun A z1 y L m ls s o Q hh hz hS st hQ => by
    have P := hS.lv _ (.head _)
    have e := hS.fz _ _ (hz _ _ hl)
    exact wpAny_pyNext_list_end hh ⟨o, P.1, st.1, st.2⟩ (isList_of e) (by simp) fun h' he' => hQ _ (hS.dropExt he')
  go := fun A z1 y L m ls s o i target v Q hS st hQ => go_plain (hS.lv _ (.head _)).1 st.1 st.2 (by decide) hQ
  self := fun A z1 y L m ls s o i Q hS st hQ => wpAny_pyIter_listiter ⟨o, (hS.lv _ (.head _)).1, st.1, st.2⟩ hQ
theorem Itr.tup {l I : Addr} {vs : List Value} (hl : z l = some (tupO vs)) : Itr c z I vs.length (fun i v => vs[i]? = some v) (StTup l) where
  item := fun A z1 y L m ls s o i Q hh hz hS st hi hQ => by
    have P := hS.lv _ (.head _)
    have e := hS.fz _ _ (hz _ _ hl)
    refine wpAny_pyNext_tuple_item (x := vs[i]) ⟨o, P.1, st.1, st.2⟩ (isTuple_of e) (by simp [hi]) fun h' hit' hs' => ?_
    obtain ⟨o', e', hc, hd⟩ := hit'
    exact hQ _ o' _ (by simp [hi]) ⟨hc, hd⟩ (hS.changed e' hs'.extBut)
  done := fun A z1 y L m ls s o Q hh hz hS st hQ => by
    have P := hS.lv _ (.head _)
    have e := hS.fz _ _ (hz _ _ hl)
    exact wpAny_pyNext_tuple_end hh ⟨o, P.1, st.1, st.2⟩ (isTuple_of e) (by simp) fun h' he' => hQ _ (hS.dropExt he')
  go := fun A z1 y L m ls s o i target v Q hS st hQ => go_plain (hS.lv _ (.head _)).1 st.1 st.2 (by decide) hQ
  self := fun A z1 y L m ls s o i Q hS st hQ => wpAny_pyIter_tupleiter ⟨o, (hS.lv _ (.head _)).1, st.1, st.2⟩ hQ
theorem Itr.range {I : Addr} {b : Int} {n : Nat} : Itr c z I n (fun i v => ∃ t, v = .int (b + i) t) (StRange b n) where
  item := fun A z1 y L m ls s o i Q hh hz hS st hi hQ => by
    have P := hS.lv _ (.head _)
    have e : IsRangeIter s.heap I (b + i) ((n : Int) - i) 1 := by rw [IsRangeIter]; have := P.1; rw [this]; rw [show o = _ from st]; rfl
    refine wpAny_pyNext_range_item e (by omega) fun h' hit' hs' => ?_
    refine hQ _ _ _ ⟨_, rfl⟩ ?_ (hS.changed hit' hs'.extBut)
    show _ = _
    have e1 : b + ((i + 1 : Nat) : Int) = b + (i : Int) + 1 := by omega
    have e2 : (n : Int) - ((i + 1 : Nat) : Int) = (n : Int) - i - 1 := by omega
    rw [e1, e2]; rfl
  done := fun A z1 y L m ls s o Q hh hz hS st hQ => by
    have P := hS.lv _ (.head _)
    have e : IsRangeIter s.heap I (b + n) ((n : Int) - n) 1 := by rw [IsRangeIter]; have := P.1; rw [this]; rw [show o = _ from st]; rfl
    exact wpAny_pyNext_range_end hh e (by omega) fun h' he' => hQ _ (hS.dropExt he')
  go := fun A z1 y L m ls s o i target v Q hS st hQ => by
    rw [show o = _ from st] at hS
    exact go_plain (hS.lv _ (.head _)).1 rfl rfl (by decide) hQ
  self := fun A z1 y L m ls s o i Q hS st hQ => by
    have P := hS.lv _ (.head _)
    have e : IsRangeIter s.heap I (b + i) ((n : Int) - i) 1 := by rw [IsRangeIter]; have := P.1; rw [this]; rw [show o = _ from st]; rfl
    exact wpAny_pyIter_rangeiter e hQ
def TurnOk (c : Cx) (z1 y1 : FM) (L : Addr) (J : FM → (Str → Option Value) → List (Addr × Obj) → Prop) (RV : Value → FM → (Str → Option Value) → List (Addr × Obj) → Prop) (fl : Flow) (s : Shared) : Prop :=
  ∃ z2 m2 ls2, FM.le z1 z2 ∧ S c z2 y1 L m2 ls2 s ∧ (match fl with | .next | .cont => J z2 m2 ls2 | .brk => False | .ret r => RV r z2 m2 ls2)
theorem zForIt {I : Addr} {n : Nat} {val : Nat → Value → Prop} {St : Nat → Obj → Prop} {o : Obj} {target : Expr} {body : List Stmt} {Q : Flow → Shared → Prop} {E : Value → Shared → Prop}
    (T : Itr c z I n val St) (hh : A.handled = none) (hS : S c z y L m ((I, o) :: ls) s) (st : St 0 o)
    (J : Nat → FM → (Str → Option Value) → List (Addr × Obj) → Prop) (RV : Value → FM → (Str → Option Value) → List (Addr × Obj) → Prop) (h0 : J 0 z m ls)
    (turn : ∀ i v z1 y1 m1 ls1 s1, i < n → val i v → FM.le z z1 → J i z1 m1 ls1 → S c z1 y1 L m1 ls1 s1 →
      W c A (assign target env v) (fun _ s2 => W c A (execs body env) (TurnOk c z1 y1 L (J (i + 1)) RV) s2) s1)
    (done : ∀ z1 m1 ls1 s1, FM.le z z1 → J n z1 m1 ls1 → S c z1 y L m1 ls1 s1 → Q .next s1)
    (ret : ∀ r z1 m1 ls1 s1, FM.le z z1 → RV r z1 m1 ls1 → S c z1 y L m1 ls1 s1 → Q (.ret r) s1) :
    codeAny (model PG c.w) A (.forLoop target (.ref I) body [] env) (fun r s' => match r with | .ok f => Q f s' | .error e => E e s') s := by
  refine codeAny_forLoop_any (fun k s' => ∃ i z1 m1 ls1 o1, i ≤ n ∧ k = n + 1 - i ∧ FM.le z z1 ∧ J i z1 m1 ls1 ∧ St i o1 ∧ S c z1 y L m1 ((I, o1) :: ls1) s') ?_ (n + 1) ⟨0, z, m, ls, o, Nat.zero_le _, rfl, FM.le.refl z, h0, st, hS⟩
  rintro k s' ⟨i, z1, m1, ls1, o1, hi, rfl, hz, hJ, st1, hS1⟩
  have yn := hS1.yNone
  by_cases hlt : i < n
  · refine W.any (T.item A z1 y L m1 ls1 s' o1 i _ hh hz hS1 st1 hlt fun v o2 s2 hv st2 hS2 => ?_)
    refine W.any (T.go A z1 y L m1 ls1 s2 o2 (i + 1) target v _ hS2 st2 ?_)
    refine W.any (W.mono (turn i v z1 (y.put I o2) m1 ls1 s2 hlt hv hz hJ hS2.hide) fun _ s3 h3 => W.any (W.mono h3 fun fl s4 h4 => ?_))
    obtain ⟨z2, m2, ls2, hz2, hS4, h4⟩ := h4
    have hS5 := hS4.unhide yn
    cases fl with
    | next => exact ⟨n + 1 - (i + 1), by omega, i + 1, z2, m2, ls2, o2, hlt, rfl, hz.trans hz2, h4, st2, hS5⟩
    | cont => exact ⟨n + 1 - (i + 1), by omega, i + 1, z2, m2, ls2, o2, hlt, rfl, hz.trans hz2, h4, st2, hS5⟩
    | brk => exact h4.elim
    | ret r => exact ret r z2 m2 ls2 s4 (hz.trans hz2) h4 hS5.drop
  · have hin : i = n := by omega
    subst hin
    exact W.any (T.done A z1 y L m1 ls1 s' o1 _ hh hz hS1 st1 fun s2 hS2 => wpAny_execs_nil (done z1 m1 ls1 s2 hz hJ hS2))
theorem zForList {l : Addr} {vs : List Value} {n : Nat} {target : Expr} {body : List Stmt} {Q : Flow → Shared → Prop} {E : Value → Shared → Prop}
    (hl : z l = some (lstO vs n)) (hh : A.handled = none) (hS : S c z y L m ls s)
    (J : Nat → FM → (Str → Option Value) → List (Addr × Obj) → Prop) (RV : Value → FM → (Str → Option Value) → List (Addr × Obj) → Prop) (h0 : J 0 z m ls)
    (turn : ∀ i v z1 y1 m1 ls1 s1, i < vs.length → vs[i]? = some v → FM.le z z1 → J i z1 m1 ls1 → S c z1 y1 L m1 ls1 s1 →
      W c A (assign target env v) (fun _ s2 => W c A (execs body env) (TurnOk c z1 y1 L (J (i + 1)) RV) s2) s1)
    (done : ∀ z1 m1 ls1 s1, FM.le z z1 → J vs.length z1 m1 ls1 → S c z1 y L m1 ls1 s1 → Q .next s1)
    (ret : ∀ r z1 m1 ls1 s1, FM.le z z1 → RV r z1 m1 ls1 → S c z1 y L m1 ls1 s1 → Q (.ret r) s1) :
    W c A (pyIter (.ref l)) (fun it s₂ => codeAny (model PG c.w) A (.forLoop target it body [] env) (fun r s' => match r with | .ok f => Q f s' | .error e => E e s') s₂) s := by
  refine wpAny_pyIter_list (isList_of (hS.fz _ _ hl)) ?_
  exact zForIt (Itr.list hl) hh (hS.alloc _) ⟨rfl, rfl⟩ J RV h0 turn done ret
theorem zForTup {l : Addr} {vs : List Value} {target : Expr} {body : List Stmt} {Q : Flow → Shared → Prop} {E : Value → Shared → Prop}
    (hl : z l = some (tupO vs)) (hh : A.handled = none) (hS : S c z y L m ls s)
    (J : Nat → FM → (Str → Option Value) → List (Addr × Obj) → Prop) (RV : Value → FM → (Str → Option Value) → List (Addr × Obj) → Prop) (h0 : J 0 z m ls)
    (turn : ∀ i v z1 y1 m1 ls1 s1, i < vs.length → vs[i]? = some v → FM.le z z1 → J i z1 m1 ls1 → S c z1 y1 L m1 ls1 s1 →
      W c A (assign target env v) (fun _ s2 => W c A (execs body env) (TurnOk c z1 y1 L (J (i + 1)) RV) s2) s1)
    (done : ∀ z1 m1 ls1 s1, FM.le z z1 → J vs.length z1 m1 ls1 → S c z1 y L m1 ls1 s1 → Q .next s1)
    (ret : ∀ r z1 m1 ls1 s1, FM.le z z1 → RV r z1 m1 ls1 → S c z1 y L m1 ls1 s1 → Q (.ret r) s1) :
    W c A (pyIter (.ref l)) (fun it s₂ => codeAny (model PG c.w) A (.forLoop target it body [] env) (fun r s' => match r with | .ok f => Q f s' | .error e => E e s') s₂) s := by
  refine wpAny_pyIter_tuple (isTuple_of (hS.fz _ _ hl)) ?_
  exact zForIt (Itr.tup hl) hh (hS.alloc _) ⟨rfl, rfl⟩ J RV h0 turn done ret
end
end
section
open PySem PySem.W PySem.Calls PyProof.Rows
set_option maxRecDepth 100000
set_option maxHeartbeats 8000000
set_option linter.unusedVariables false
section
variable {c : Cx} {A : Around} {z y : FM} {L a : Addr} {m : Str → Option Value} {ls : List (Addr × Obj)} {s : Shared} {env : Env}
theorem execs_append (b : List Stmt) (M : Model) (Γ : Ctx) (Q : Flow → Pos → Shared → Prop) (E : Value → Pos → Shared → Prop) : ∀ (a : List Stmt) (p : Pos) (s : Shared),
    Sem.wp M Γ (execs (a ++ b) env) Q E p s = Sem.wp M Γ (execs a env) (fun f p' s' => match f with | .next => Sem.wp M Γ (execs b env) Q E p' s' | f => Q f p' s') E p s
  | [], p, s => by
    show Sem.wp M Γ (execs b env) Q E p s = Sem.wp M Γ (pure Flow.next) _ E p s
    rw [Sem.wp_pure']
  | st :: r, p, s => by
    show Sem.wp M Γ (execs (st :: (r ++ b)) env) Q E p s = Sem.wp M Γ (execs (st :: r) env) _ E p s
    rw [execs_cons, execs_cons, Sem.wp_bind', Sem.wp_bind']
    congr 1
    funext f p' s'
    cases f with
    | next => exact execs_append b M Γ Q E r p' s'
    | brk => rw [Sem.wp_pure', Sem.wp_pure']
    | cont => rw [Sem.wp_pure', Sem.wp_pure']
    | ret v => rw [Sem.wp_pure', Sem.wp_pure']
theorem zCut {α : Type} {t : Sem α} {P Q : α → Shared → Prop} (h : W c A t P s) (k : ∀ v s', P v s' → Q v s') : W c A t Q s := W.mono h k
theorem zNil {Q : Flow → Shared → Prop} (h : Q .next s) : W c A (execs [] env) Q s := wpAny_execs_nil h
theorem zSeq {st : Stmt} {rest : List Stmt} {Q : Flow → Shared → Prop} (h : W c A (exec st env) (fun f s' => f = .next ∧ W c A (execs rest env) Q s') s) : W c A (execs (st :: rest) env) Q s :=
  wpAny_execs_cons (W.mono h fun f s' h' => by obtain ⟨rfl, h'⟩ := h'; exact h')
theorem zApp {st : Stmt} {r b : List Stmt} {Q : Flow → Shared → Prop} (h : W c A (execs (st :: (r ++ b)) env) Q s) : W c A (execs ((st :: r) ++ b) env) Q s := h
theorem zApp0 {b : List Stmt} {Q : Flow → Shared → Prop} (h : W c A (execs b env) Q s) : W c A (execs ([] ++ b) env) Q s := h
theorem zReturn {e : Expr} {pos : Pos} {rest : List Stmt} {Q : Flow → Shared → Prop} (h : W c A (eval e env) (fun v s' => Q (.ret v) s') s) : W c A (execs (.Return (some e) pos :: rest) env) Q s :=
  wpAny_execs_cons (wpAny_Return_some h)
theorem zReturn0 {pos : Pos} {rest : List Stmt} {Q : Flow → Shared → Prop} (h : Q (.ret .none) s) : W c A (execs (.Return none pos :: rest) env) Q s :=
  wpAny_execs_cons (wpAny_Return_none h)
theorem zIf {test : Expr} {body orelse rest : List Stmt} {pos : Pos} {Q : Flow → Shared → Prop}
    (h : W c A (isTrue test env (eval test env)) (fun b s1 => if b = true then W c A (execs (body ++ rest) env) Q s1 else W c A (execs (orelse ++ rest) env) Q s1) s) :
    W c A (execs (.If test body orelse pos :: rest) env) Q s := fun Γ p hΓ => by
  rw [execs_cons, exec_If]
  simp only [Sem.wp_bind', Sem.wp_cmd_standAt]
  refine Sem.wp_mono _ _ _ (fun b p₂ s₂ h₂ => ?_) (fun _ _ _ h' => h') _ _ (h Γ _ hΓ)
  have go : ∀ l : List Stmt, W c A (execs (l ++ rest) env) Q s₂ → Sem.wp (model PG c.w) Γ (execs l env) (fun f p' s' => Sem.wp (model PG c.w) Γ (match f with | .next => execs rest env | f => pure f) (fun a _ s' => Q a s') (fun _ _ _ => False) p' s') (fun _ _ _ => False) p₂ s₂ := by
    intro l hl
    have := hl Γ p₂ hΓ
    rw [execs_append] at this
    refine Sem.wp_mono _ _ _ (fun f p' s' h' => ?_) (fun _ _ _ h' => h') _ _ this
    cases f with
    | next => exact h'
    | brk => rw [Sem.wp_pure']; exact h'
    | cont => rw [Sem.wp_pure']; exact h'
    | ret v => rw [Sem.wp_pure']; exact h'
  cases b with
  | true => exact go body (by simpa using h₂)
  | false => exact go orelse (by simpa using h₂)
theorem zIte {b : Bool} {P P' : Prop} (ht : b = true → P) (hf : b = false → P') : if b = true then P else P' := by cases b <;> simp_all
theorem zIteT {b : Bool} {P P' : Prop} (hb : b = true) (h : P) : if b = true then P else P' := by rw [if_pos hb]; exact h
theorem zIteF {b : Bool} {P P' : Prop} (hb : b = false) (h : P') : if b = true then P else P' := by rw [hb]; exact h
theorem zAssign {x : Str} {p1 p2 : Pos} {value : Expr} {rest : List Stmt} {Q : Flow → Shared → Prop}
    (h : W c A (eval value env) (fun v s₁ => W c A (storeName env x v) (fun _ s2 => W c A (execs rest env) Q s2) s₁) s)
    (hs : swapsWith value (some (.Name x p1)) p2.line env = pure false := by rfl) : W c A (execs (.Assign [.Name x p1] value p2 :: rest) env) Q s :=
  zSeq (wpAny_Assign_Name (W.mono h fun v s1 h1 => W.mono h1 fun _ s2 h2 => ⟨rfl, h2⟩) hs)
theorem zExpr {e : Expr} {pos : Pos} {rest : List Stmt} {Q : Flow → Shared → Prop} (h : W c A (eval e env) (fun _ s1 => W c A (execs rest env) Q s1) s)
    (hi : interactive env = false := by rfl) (hs : swapsWith e none pos.line env = pure false := by rfl) : W c A (execs (.Expr e pos :: rest) env) Q s :=
  zSeq (wpAny_Expr_any (W.mono h fun v s1 h1 => ⟨rfl, h1⟩) hi hs)
theorem zFor {target iter : Expr} {body rest : List Stmt} {pos : Pos} {Q : Flow → Shared → Prop}
    (h : W c A (eval iter env) (fun x s₁ => W c A (pyIter x) (fun it s₂ => codeAny (model PG c.w) A (.forLoop target it body [] env)
      (fun r s' => match r with | .ok f => (match f with | .next => W c A (execs rest env) Q s' | f => Q f s') | .error e => cameBackBy (model PG c.w) A env (fun _ _ => False) e s') s₂) s₁) s)
    (hs : ∀ x, foldedSetIterable iter env x = pure x := by intro _; rfl) : W c A (execs (.For target iter body [] pos :: rest) env) Q s :=
  wpAny_execs_cons (wpAny_For h hs)
theorem zWhile {test : Expr} {body rest : List Stmt} {pos : Pos} {Q : Flow → Shared → Prop} (J : Nat → FM → (Str → Option Value) → List (Addr × Obj) → Prop) (k0 : Nat) (hS : S c z y L m ls s) (h0 : J k0 z m ls)
    (turn : ∀ k z1 m1 ls1 s1, FM.le z z1 → J k z1 m1 ls1 → S c z1 y L m1 ls1 s1 → W c A (isTrue test env (eval test env)) (fun b s2 =>
      if b = true then W c A (execs body env) (fun fl s3 => match fl with
        | .next | .cont => ∃ k' z2 m2 ls2, k' < k ∧ FM.le z z2 ∧ S c z2 y L m2 ls2 s3 ∧ J k' z2 m2 ls2
        | .brk => W c A (execs rest env) Q s3
        | .ret v => Q (.ret v) s3) s2
      else W c A (execs rest env) Q s2) s1) : W c A (execs (.While test body [] pos :: rest) env) Q s := by
  refine wpAny_execs_cons (wpAny_While (codeAny_whileLoop (fun k s' => ∃ z1 m1 ls1, FM.le z z1 ∧ J k z1 m1 ls1 ∧ S c z1 y L m1 ls1 s') ?_ k0 ⟨z, m, ls, FM.le.refl z, h0, hS⟩))
  rintro k s1 ⟨z1, m1, ls1, hz, hJ, hS1⟩
  refine W.any (W.mono (turn k z1 m1 ls1 s1 hz hJ hS1) fun b s2 h2 => ?_)
  cases b with
  | true =>
    simp only [if_true] at h2 ⊢
    refine W.any (W.mono h2 fun fl s3 h3 => ?_)
    cases fl with
    | next => obtain ⟨k', z2, m2, ls2, hk, hz2, hS2, hJ2⟩ := h3; exact ⟨k', hk, z2, m2, ls2, hz2, hJ2, hS2⟩
    | cont => obtain ⟨k', z2, m2, ls2, hk, hz2, hS2, hJ2⟩ := h3; exact ⟨k', hk, z2, m2, ls2, hz2, hJ2, hS2⟩
    | brk => exact h3
    | ret v => exact h3
  | false =>
    simp only [Bool.false_eq_true, if_false] at h2 ⊢
    exact wpAny_execs_nil h2
theorem zTuple {elts : List Expr} {k : Nat} {pos : Pos} {Q : Value → Shared → Prop} (h : W c A (spliced (backTo pos (starEach elts env))) (fun vs s1 => W c A (newTuple vs) Q s1) s) : W c A (eval (.Tuple elts k pos) env) Q s := Tuple_ h
theorem zList {elts : List Expr} {pos : Pos} {Q : Value → Shared → Prop} (h : W c A (spliced (backTo pos (starEach elts env))) (fun vs s1 => W c A (newList vs) Q s1) s) : W c A (eval (.List elts pos) env) Q s := List_ h
theorem zItem0 {pos : Pos} {Q : List Value → Shared → Prop} (h : Q [] s) : W c A (spliced (backTo pos (starEach [] env))) Q s := wpAny_items_nil h
theorem zItem1 {pos : Pos} {e : Expr} {rest : List Expr} {Q : List Value → Shared → Prop}
    (h : W c A (eval e env) (fun v s₁ => W c A (spliced (backTo pos (starEach rest env))) (fun vs s₂ => Q (v :: vs) s₂) s₁) s)
    (he : starEach (e :: rest) env = (false, eval e env) :: starEach rest env := by rfl) : W c A (spliced (backTo pos (starEach (e :: rest) env))) Q s := wpAny_items_cons h he
theorem zNewT {vs : List Value} {Q : Value → Shared → Prop} (hS : S c z y L m ls s) (h : ∀ t z' s', FM.le z z' → z' t = some (tupO vs) → S c z' y L m ls s' → Q (.ref t) s') (hsz : vs.length ≤ 1000000 := by exact Nat.le_of_ble_eq_true rfl) :
    W c A (newTuple vs) Q s :=
  wpAny_newObj_type (h _ _ _ (hS.allocZ (tupO vs) (t := s.toks)).1 FM.put_self (hS.allocZ (tupO vs) (t := s.toks)).2) (by show vs.toArray.size ≤ sizeLine; rw [List.size_toArray, sizeLine_eq]; omega)
theorem zNewL {vs : List Value} {Q : Value → Shared → Prop} (hS : S c z y L m ls s) (h : ∀ l s', S c z y L m ((l, lstO vs 0) :: ls) s' → Q (.ref l) s') (hsz : vs.length ≤ 1000000 := by exact Nat.le_of_ble_eq_true rfl) :
    W c A (newList vs) Q s :=
  wpAny_newObj_type (h _ _ (hS.alloc (lstO vs 0) (t := s.toks))) (by show vs.toArray.size ≤ sizeLine; rw [List.size_toArray, sizeLine_eq]; omega)
theorem mapSeq_push (vs : List Value) (n : Nat) (v : Value) : Obj.mapSeq (fun xs => xs.push v) (lstO vs n) = lstO (vs ++ [v]) (n + 1) := by
  simp [Obj.mapSeq, lstO]
theorem zAppend {l : Addr} {vs : List Value} {n : Nat} {v : Value} {Q : Value → Shared → Prop} (hS : S c z y L m ((l, lstO vs n) :: ls) s) (h : ∀ s', S c z y L m ((l, lstO (vs ++ [v]) (n + 1)) :: ls) s' → Q .none s')
    (hsz : vs.length ≤ 1000000) : W c A (call (.builtin "list.append") [.ref l, v]) Q s := by
  have P := hS.lv _ (.head _)
  obtain ⟨o', e'⟩ : ∃ o', o' = Obj.mapSeq (fun xs => xs.push v) (lstO vs n) := ⟨_, rfl⟩
  refine call_meets PySem.F.slot_list_append ⟨_, P.1, rfl⟩ PySem.F.entry_list_append (PySem.F.args_list_append_2 _ _) (list_append l vs.toArray n v (by rw [List.size_toArray, sizeLine_eq]; omega)) ⟨P.1, h _ ?_⟩
  have := hS.updated (f := Obj.mapSeq fun xs => xs.push v) (by rw [mapSeq_push]; rfl) (t := s.toks)
  rw [mapSeq_push] at this
  exact this
theorem zMethL {name : Str} {id : String} {pl : Sem Bool} {l : Addr} {vs : List Value} {n : Nat} {Q : Value × List Value → Shared → Prop} (slot : Slot "list" name id) (hty : typeOf (.builtin id) = pure (.type "method_descriptor"))
    (hl : s.heap.get? l = some (lstO vs n)) (h : Q (.builtin id, [.ref l]) s) : W c A (getMethod (.ref l) name pl) Q s :=
  getMethod_list_of slot hty (isList_of hl) ⟨_, hl, rfl⟩ h
theorem zGetAppend {pl : Sem Bool} {l : Addr} {vs : List Value} {n : Nat} {Q : Value × List Value → Shared → Prop} (hS : S c z y L m ((l, lstO vs n) :: ls) s) (h : Q (.builtin "list.append", [.ref l]) s) :
    W c A (getMethod (.ref l) (Str.ofString "append") pl) Q s := zMethL PySem.F.slot_list_append PySem.F.type_list_append (hS.lv _ (.head _)).1 h
end
end
section
open PySem PySem.W PySem.Calls PyProof.Rows
set_option maxRecDepth 100000
set_option maxHeartbeats 8000000
set_option linter.unusedVariables false
section
variable {c : Cx} {A : Around} {z y : FM} {L a : Addr} {m : Str → Option Value} {ls : List (Addr × Obj)} {s : Shared} {env : Env}
theorem zShl {i j : Int} {t u : Tok} {Q : Value → Shared → Prop} (hS : S c z y L m ls s) (h0 : 0 ≤ j) (hsz : (Builtin.Int.intBits i : Int) + j ≤ 2 ^ 27) (h : ∀ t s', S c z y L m ls s' → Q (.int (i * 2 ^ j.toNat) t) s') :
    W c A (binaryOp .LShift (.int i t) (.int j u)) Q s := lshift_int h0 hsz (h _ _ hS.toks)
theorem zPow {i j : Int} {t u : Tok} {Q : Value → Shared → Prop} (hS : S c z y L m ls s) (h0 : 0 ≤ j) (hsz : (Builtin.Int.intBits i : Int) * j ≤ 2 ^ 27) (h : ∀ t s', S c z y L m ls s' → Q (.int (i ^ j.toNat) t) s') :
    W c A (binaryOp .Pow (.int i t) (.int j u)) Q s := pow_int h0 hsz (h _ _ hS.toks)
theorem zMul {i j : Int} {t u : Tok} {Q : Value → Shared → Prop} (hS : S c z y L m ls s) (hm : IntMulOk i j) (h : ∀ t s', S c z y L m ls s' → Q (.int (i * j) t) s') :
    W c A (binaryOp .Mult (.int i t) (.int j u)) Q s := P.mul_int (h _ _ hS.toks) hm
theorem zDiv {i j : Int} {t u : Tok} {Q : Value → Shared → Prop} (hS : S c z y L m ls s) (hj : j ≠ 0) (hsm : j.natAbs < 1073741824) (hh : A.handled = none) (h : ∀ t s', S c z y L m ls s' → Q (.int (i.fdiv j) t) s') :
    W c A (binaryOp .FloorDiv (.int i t) (.int j u)) Q s := floordiv_int_or hh (fun e => absurd e hj) (fun _ => h _ _ hS.toks) fun _ => .inl (PyProof.noPylong_small hsm)
theorem zMod {i j : Int} {t u : Tok} {Q : Value → Shared → Prop} (hS : S c z y L m ls s) (hj : j ≠ 0) (hh : A.handled = none) (h : ∀ t s', S c z y L m ls s' → Q (.int (i.fmod j) t) s') :
    W c A (binaryOp .Mod (.int i t) (.int j u)) Q s := mod_int_or hh (fun e => absurd e hj) fun _ => h _ _ hS.toks
theorem zSlice1 {i : Int} {k : Nat} {p1 p2 : Pos} {Q : Value → Shared → Prop} (hS : S c z y L m ls s)
    (h : ∀ sl t s', S c z y L m ((sl, { cls := .type "slice", data := .fields #[.int i t, .none, .none] }) :: ls) s' → Q (.ref sl) s') :
    W c A (eval (.Slice (some (.Constant (.int i) k p1)) none none p2) env) Q s := by
  refine wpAny_Slice ?_
  rw [evalPart_some]
  refine wpAny_Constant_int ?_
  rw [evalPart_none]
  refine wpAny_pure (wpAny_pure ?_)
  exact h _ _ _ ((hS.toks (t := s.toks + 1)).alloc _ (t := s.toks + 1))
theorem zSubSlice {value : Expr} {lo up : Option Expr} {p : Pos} {t sl : Addr} {vs : List Value} {i : Nat} {u : Tok} {Q : Value → Shared → Prop} (ht : z t = some (tupO vs))
    (hS : S c z y L m ((sl, { cls := .type "slice", data := .fields #[.int (i : Int) u, .none, .none] }) :: ls) s) (h1 : 1 ≤ i) (hi : i ≤ vs.length)
    (h : ∀ r z' s', FM.le z z' → z' r = some (tupO (vs.drop i)) → S c z' y L m ls s' → Q (.ref r) s') (hsz : vs.length ≤ 1000000 := by exact Nat.le_of_ble_eq_true rfl)
    (hg : ∀ r, letTemporaryGo value (.ref t) r = pure () := by intro _; with_unfolding_all rfl) :
    W c A (subscriptTail value (.Slice lo up none p) (.ref t) (.ref sl)) Q s := by
  have e := hS.fz _ _ ht
  have P := hS.lv _ (.head _)
  have hT : IsTup s.heap t vs.toArray := ⟨_, e, rfl, 0, rfl⟩
  refine subscriptTail_ops (ops := [.ref sl, .ref t]) hT.typeIs slot_tuple_getitem.lookup (getItem_tuple_from hT ⟨_, P.1, rfl, rfl⟩ h1 (by rw [List.size_toArray]; exact hi) ?_ (by rw [List.size_toArray, sizeLine_eq]; omega)) rfl hg
  have := hS.drop.allocZ (tupO (vs.drop i)) (t := s.toks)
  exact h _ _ _ this.1 FM.put_self this.2
theorem zUnpackT {elts : List Expr} {k : Nat} {pos : Pos} {t : Addr} {vs : List Value} {Q : Unit → Shared → Prop} (hS : S c z y L m ls s) (ht : z t = some (tupO vs)) (hh : A.handled = none)
    (hn : (assignEach elts env).length = vs.length) (hstar : (assignEach elts env).findIdx? (·.1) = none)
    (h : ∀ s', S c z y L m ls s' → W c A (assignInOrder ((assignEach elts env).map (·.2)) vs) Q s') : W c A (assign (.Tuple elts k pos) env (.ref t)) Q s := by
  refine wpAny_assign_Tuple hh (isTuple_of (hS.fz _ _ ht)) (by rw [List.size_toArray]; exact hn) hstar fun h' he => ?_
  exact h _ (hS.keepsTo (h' := h') (t := s.toks) fun b o e => he b o (Nat.ne_of_lt (Heap.lt_size e)) e)
theorem zUnpackItems {t : Addr} {vs : List Value} {n : Nat} {Q : List Value → Shared → Prop} (hS : S c z y L m ls s) (ht : z t = some (tupO vs)) (hh : A.handled = none) (hn : n = vs.length) (h : ∀ s', S c z y L m ls s' → Q vs s') :
    W c A (unpackItems (.ref t) n none) Q s := by
  subst hn
  have := wpAny_unpackItems_tuple (prog := PG) (w := c.w) (A := A) (E := fun _ _ => False) (Q := Q) hh (isTuple_of (hS.fz _ _ ht)) fun h' he => h _ (hS.keepsTo (h' := h') (t := s.toks) fun b o e => he b o (Nat.ne_of_lt (Heap.lt_size e)) e)
  rw [List.size_toArray] at this
  exact this
theorem zInOrder1 {f : Value → Sem Unit} {fs : List (Value → Sem Unit)} {v : Value} {vs : List Value} {Q : Unit → Shared → Prop} (h : W c A (f v) (fun _ s1 => W c A (assignInOrder fs vs) Q s1) s) : W c A (assignInOrder (f :: fs) (v :: vs)) Q s := by
  show W c A (do holding vs (f v); assignInOrder fs vs) Q s
  exact wpAny_bind (wpAny_holding h)
theorem zInOrder0 {Q : Unit → Shared → Prop} (h : Q () s) : W c A (assignInOrder [] []) Q s := wpAny_pure h
theorem zAssignName {x : Str} {p : Pos} {v : Value} {Q : Unit → Shared → Prop} (h : W c A (storeName env x v) Q s) : W c A (assign (.Name x p) env v) Q s := wpAny_assign_Name h
theorem zAssignT {elts : List Expr} {k : Nat} {p1 p2 : Pos} {value : Expr} {rest : List Stmt} {Q : Flow → Shared → Prop}
    (h : W c A (eval value env) (fun v s₁ => W c A (assign (.Tuple elts k p1) env v) (fun _ s2 => W c A (execs rest env) Q s2) s₁) s)
    (hs : swapsWithSole [.Tuple elts k p1] value p2.line env = pure false := by rfl) (hw : swappedStores [.Tuple elts k p1] value env = pure none := by rfl) :
    W c A (execs (.Assign [.Tuple elts k p1] value p2 :: rest) env) Q s :=
  zSeq (Assign_Tuple (W.mono h fun v s1 h1 => W.mono h1 fun _ s2 h2 => ⟨rfl, h2⟩) hs hw)
theorem zAssignT2 {elts : List Expr} {k : Nat} {p1 p2 : Pos} {value : Expr} {rest : List Stmt} {names : List Str} {Q : Flow → Shared → Prop}
    (h : W c A (eval value env) (fun v s₁ => W c A (unpackItems v names.length none) (fun items s₂ => W c A (assignInOrder (names.reverse.map fun n => bindName env n) items.reverse) (fun _ s3 => W c A (execs rest env) Q s3) s₂) s₁) s)
    (hs : swapsWithSole [.Tuple elts k p1] value p2.line env = pure false := by rfl) (hw : swappedStores [.Tuple elts k p1] value env = pure (some names) := by rfl) :
    W c A (execs (.Assign [.Tuple elts k p1] value p2 :: rest) env) Q s :=
  zSeq (Assign_Tuple_swapped (W.mono h fun v s1 h1 => W.mono h1 fun items s2 h2 => W.mono h2 fun _ s3 h3 => ⟨rfl, h3⟩) hs hw)
theorem zBind {x : Str} {v : Value} {Q : Unit → Shared → Prop} (h : W c A (storeName env x v) Q s) : W c A (bindName env x v) Q s := wpAny_bindName h
theorem zCall {func : Expr} {args : List Expr} {pos : Pos} {Q : Value → Shared → Prop} (h : W c A (eval func env) (fun f s₁ => W c A (callWith pos f [] (backTo pos (starEach args env)) []) Q s₁) s)
    (he : eval (.Call func args [] pos) env = (do callWith pos (← eval func env) [] (backTo pos (starEach args env)) (backToKw pos (keywordEach [] env))) := by rfl) :
    W c A (eval (.Call func args [] pos) env) Q s := Call_ h he
theorem zMethCall {o : Expr} {name : Str} {apos pos : Pos} {args : List Expr} {pl : Sem Bool} {Q : Value → Shared → Prop}
    (h : W c A (eval o env) (fun ov s₁ => W c A (getMethod ov name pl) (fun fx s₂ => W c A (callWith pos fx.1 fx.2 (backTo pos (starEach args env)) []) Q s₂) s₁) s)
    (he : eval (.Call (.Attribute o name apos) args [] pos) env = (do
      let ov ← eval o env
      standAt apos.atName
      let (f, first) ← holding [ov] (getMethod ov name pl)
      callWith pos f first (backTo pos (starEach args env)) []) := by rfl) : W c A (eval (.Call (.Attribute o name apos) args [] pos) env) Q s := MethodCall_ h he
theorem zCallWith {f : Value} {pos : Pos} {first : List Value} {e : Expr} {rest : List Expr} {Q : Value → Shared → Prop} (ok : c.Ok) (hk : keepIn (hd.heap_1 c.w.params) f = true)
    (h : W c A (spliced (backTo pos (starEach (e :: rest) env))) (fun vs s₁ => (∃ z y L m ls, S c z y L m ls s₁) ∧ W c A (call f (first ++ vs)) Q s₁) s)
    (he : starEach (e :: rest) env = (false, eval e env) :: starEach rest env := by rfl) (hplain : (backTo pos (starEach rest env)).any (·.1) = false := by rfl) :
    W c A (callWith pos f first (backTo pos (starEach (e :: rest) env)) []) Q s :=
  callWith_K (h₀ := c.H) ok.K hk (W.mono h fun vs s1 h1 => by obtain ⟨⟨z, y, L, m, ls, hS⟩, h1⟩ := h1; exact ⟨hS.K ok, h1⟩) he hplain
theorem zCallWith0 {f : Value} {pos : Pos} {first : List Value} {Q : Value → Shared → Prop} (ok : c.Ok) (hS : S c z y L m ls s) (hk : keepIn (hd.heap_1 c.w.params) f = true)
    (h : W c A (call f (first ++ [])) Q s) : W c A (callWith pos f first (backTo pos (starEach [] env)) []) Q s := callWith_K0 (hS.K ok) hk h
theorem zCallB {id : String} {pos : Pos} {first : List Value} {e : Expr} {rest : List Expr} {Q : Value → Shared → Prop}
    (h : W c A (spliced (backTo pos (starEach (e :: rest) env))) (fun vs s₁ => W c A (call (.builtin id) (first ++ vs)) Q s₁) s)
    (he : starEach (e :: rest) env = (false, eval e env) :: starEach rest env := by rfl) (hplain : (backTo pos (starEach rest env)).any (·.1) = false := by rfl) :
    W c A (callWith pos (.builtin id) first (backTo pos (starEach (e :: rest) env)) []) Q s := callWith_method1 h he hplain
theorem zCallB0 {id : String} {pos : Pos} {first : List Value} {Q : Value → Shared → Prop} (h : W c A (call (.builtin id) first) Q s) : W c A (callWith pos (.builtin id) first (backTo pos (starEach [] env)) []) Q s := callWith_method0 h
theorem zFn {n : Nat} {f : Addr} {args : List Value} {ls0 rest : List (Addr × Obj)} {Out : FM → Value → List (Addr × Obj) → Prop} {Q : Value → Shared → Prop} (F : Fn c n z f args [] ls0 Out) (R : Room A n) (hS : S c z y L m (ls0 ++ rest) s)
    (h : ∀ r z' ls' s', FM.le z z' → Out z' r ls' → S c z' y L m (ls' ++ rest) s' → Q r s') : W c A (call (.ref f) args) Q s := wpAny_call (F A y L m rest s _ R hS h)
end
end
section
open PySem PySem.W PySem.Calls PyProof.Rows
set_option maxRecDepth 100000
set_option maxHeartbeats 8000000
set_option linter.unusedVariables false
section
variable {c : Cx} {A : Around} {z y : FM} {L a : Addr} {m : Str → Option Value} {ls : List (Addr × Obj)} {s : Shared} {env : Env}
abbrev IK (c : Cx) : KeyKind PG c.w Int := intKind PG c.w
def DictZ (c : Cx) (z : FM) (v : Value) (kvs : List (Int × Value)) : Prop := ∃ d o, v = .ref d ∧ d ≠ 1 ∧ z d = some o ∧ o.IsDictOf (IK c) kvs
theorem DictZ.mono {z' : FM} (h : FM.le z z') {v : Value} {kvs : List (Int × Value)} : DictZ c z v kvs → DictZ c z' v kvs := fun ⟨d, o, e, n, q, r⟩ => ⟨d, o, e, n, h _ _ q, r⟩
theorem S.big (h : S c z y L m ls s) (ok : c.Ok) : 3 < s.heap.objs.size := by
  have : (hd.heap_1 c.w.params).lookup 3 ≠ none := by with_unfolding_all exact (fun e => by cases e)
  cases q : (hd.heap_1 c.w.params).lookup 3 with
  | none => exact absurd q this
  | some o => exact Heap.lt_size (h.K ok 3 o q)
theorem isInt_int (k : Int) (t : Tok) : (IK c).is k (.int k t) = true := by show Value.isInt k (.int k t) = true; simp [Value.isInt]
theorem dictOf_of {h : Heap} {d : Addr} {o : Obj} {kvs : List (Int × Value)} (e : h.get? d = some o) (D : o.IsDictOf (IK c) kvs) : h.DictOf (IK c) d kvs := Heap.dictOf_iff.mpr ⟨o, e, D⟩
theorem zDict0 {pos : Pos} {Q : Value → Shared → Prop} (ok : c.Ok) (hS : S c z y L m ls s) (h : ∀ d o s', d ≠ 1 → o.IsDictOf (IK c) [] → S c z y L m ((d, o) :: ls) s' → Q (.ref d) s') : W c A (eval (.Dict [] [] pos) env) Q s := by
  rw [eval_Dict_empty]
  refine wpAny_bind (wpAny_standAt ?_)
  simp only [newDict, newObj]
  refine wpAny_bind (wpAny_alloc (wpAny_pure ?_))
  have hb := hS.big ok
  refine h _ { cls := .type "dict", data := .dict #[] } _ (Nat.ne_of_gt (Nat.lt_trans (by decide) hb)) ?_ (hS.alloc _ (t := s.toks))
  obtain ⟨o, ho, hd⟩ := Heap.dictOf_iff.mp (Heap.DictOf.new (knd := IK c) s.heap)
  rw [Heap.get?_push_size _ rfl] at ho
  cases ho; exact hd
theorem zDictSet {d : Addr} {o : Obj} {k : Int} {t : Tok} {v : Value} {kvs : List (Int × Value)} {Q : Unit → Shared → Prop} (hS : S c z y L m ((d, o) :: ls) s) (hD : o.IsDictOf (IK c) kvs) (hsz : kvs.length ≤ 1000)
    (h : ∀ o' s', o'.IsDictOf (IK c) (stored kvs k v) → S c z y L m ((d, o') :: ls) s' → Q () s') : W c A (setItem (.ref d) (.int k t) v) Q s := by
  have P := hS.lv _ (.head _)
  refine wpAny_setItem_pairs (knd := IK c) (isInt_int k t) (dictOf_of P.1 hD) (fun h' hm hs => ?_) (by rw [sizeLine_eq]; omega)
  obtain ⟨o', ho', hd'⟩ := Heap.dictOf_iff.mp hm
  exact h o' _ hd' (hS.changed ho' hs.extBut)
theorem zDictGet {value slice : Expr} {p : Value} {k : Int} {t : Tok} {v : Value} {kvs : List (Int × Value)} {Q : Value → Shared → Prop} (hS : S c z y L m ls s) (hD : DictZ c z p kvs) (hv : valueAt kvs k = some v)
    (h : ∀ s', S c z y L m ls s' → Q v s') (hs : ∀ d, subscripted slice false (.ref d) (.int k t) = operate [.ref d, .int k t] (getItem (.ref d) (.int k t)) := by intro _; with_unfolding_all rfl) :
    W c A (subscriptTail value slice p (.int k t)) Q s := by
  obtain ⟨d, o, rfl, n1, hz, hD⟩ := hD
  have hm := dictOf_of (hS.fz _ _ hz) hD
  exact tail_any hm.typeIs slot_dict_getitem.lookup (wpAny_getItem_of (knd := IK c) (isInt_int k t) hm.mapOf hv (h _ hS.toks)) (hs d)
theorem zItemL {value slice : Expr} {l : Addr} {vs : List Value} {n : Nat} {k : Int} {u : Tok} {x : Value} {Q : Value → Shared → Prop} (hl : s.heap.get? l = some (lstO vs n))
    (h0 : 0 ≤ k) (hhi : k < 2 ^ 63) (hx : vs[k.toNat]? = some x) (h : Q x s)
    (hs : subscripted slice false (.ref l) (.int k u) = operate [.ref l, .int k u] (getItem (.ref l) (.int k u)) := by with_unfolding_all rfl) :
    W c A (subscriptTail value slice (.ref l) (.int k u)) Q s :=
  tail_any (isList_of hl).typeIs slot_list_getitem.lookup (wpAny_getItem_list (isList_of hl) h0 hhi (by simpa using hx) h) hs
theorem zGetItemL {l : Addr} {vs : List Value} {n : Nat} {k : Int} {u : Tok} {x : Value} {Q : Value → Shared → Prop} (hl : s.heap.get? l = some (lstO vs n))
    (h0 : 0 ≤ k) (hhi : k < 2 ^ 63) (hx : vs[k.toNat]? = some x) (h : Q x s) : W c A (getItem (.ref l) (.int k u)) Q s :=
  wpAny_getItem_list (isList_of hl) h0 hhi (by simpa using hx) h
theorem mapSeq_set (vs : List Value) (n j : Nat) (v : Value) : Obj.mapSeq (·.setIfInBounds j v) (lstO vs n) = lstO (vs.set j v) n := by
  simp [Obj.mapSeq, lstO]
theorem zSetItemL {l : Addr} {vs : List Value} {n : Nat} {k : Int} {u : Tok} {v : Value} {Q : Unit → Shared → Prop} (hS : S c z y L m ((l, lstO vs n) :: ls) s) (h0 : 0 ≤ k) (hfit : k < 2 ^ 63) (hn : k < vs.length)
    (h : ∀ s', S c z y L m ((l, lstO (vs.set k.toNat v) n) :: ls) s' → Q () s') : W c A (setItem (.ref l) (.int k u) v) Q s := by
  have ho := (hS.lv _ (.head _)).1
  have hT : s.TypeIs (.ref l) "list" := ⟨_, ho, rfl⟩
  have hj : k.toNat < vs.length := by omega
  unfold setItem
  try with_reducible refine wpAny_holding ?_
  first | refine wpAny_bind (wpAny_pure ?_) | skip
  refine wpAny_bind (wpAny_sequenceKey hT (by decide) ?_)
  refine wpAny_bind (wpAny_callSpecial?_slot (name := Str.ofString "__setitem__") hT slot_list_setitem (wpAny_call_entry slot_list_setitem hT entry_list_setitem ?_ (args_list_setitem _ _ _)))
  show wpAny _ _ (Builtin.List.listSubscript? (.int k u) >>= _) _ _ s
  refine wpAny_bind (wpAny_listSubscript_int (fitsIndex_of h0 hfit) ?_)
  obtain ⟨j, rfl⟩ := Int.eq_ofNat_of_zero_le h0
  have hx' : vs.toArray[j]? = some vs[j] := by simp at hj; simp [hj]
  show wpAny _ _ ((seqItemAt l j >>= fun r => pure (r.map (j, ·))) >>= _) _ _ s
  refine wpAny_bind (wpAny_bind (wpAny_seqItemAt ho rfl (wpAny_pure ?_)))
  rw [hx']
  show wpAny _ _ (setSeqItemAt l j v >>= _) _ _ s
  have hS2 := hS.updated (f := Obj.mapSeq (·.setIfInBounds j v)) (by rw [mapSeq_set]; rfl) (t := s.toks)
  rw [mapSeq_set] at hS2
  refine wpAny_bind (wpAny_setSeqItemAt ho rfl ?_)
  first
    | exact wpAny_bind (wpAny_pure (wpAny_pure ⟨.none, rfl, wpAny_pure (h _ hS2)⟩))
    | exact wpAny_pure ⟨.none, rfl, wpAny_pure (h _ hS2)⟩
theorem zDictOf {p : Value} {kvs : List (Int × Value)} {Q : Value → Shared → Prop} (ok : c.Ok) (hS : S c z y L m ls s) (hD : DictZ c z p kvs) (hsz : kvs.length ≤ 1000)
    (h : ∀ v z' s', FM.le z z' → DictZ c z' v kvs → S c z' y L m ls s' → Q v s') : W c A (call (.type "dict") [p]) Q s := by
  obtain ⟨d, o, rfl, n1, hz, hD⟩ := hD
  refine kt_call_dict (knd := IK c) (by show (d == 1) = false; simpa using n1) (dictOf_of (hS.fz _ _ hz) hD) (by rw [sizeLine_eq]; omega) fun h' hm hs => ?_
  obtain ⟨o', ho', hd'⟩ := Heap.dictOf_iff.mp hm
  have hS1 := (hS.alloc { cls := .type "dict", data := .dict #[] } (t := s.toks)).changed (t := s.toks) (o' := o') (h' := h') ho' hs.extBut
  have hb := hS.big ok
  exact h _ _ _ hS1.le_freeze ⟨_, o', rfl, Nat.ne_of_gt (Nat.lt_trans (by decide) hb), FM.put_self, hd'⟩ hS1.freeze
def StDict (d : Addr) (n ep : Nat) (i : Nat) (o : Obj) : Prop := o.cls = .type "dict_keyiterator" ∧ o.data = .fields #[.ref d, .int i 0, .int n 0, .int ep 0]
theorem Itr.dict {d I : Addr} {o : Obj} {kvs : List (Int × Value)} {ep : Nat} (hz : z d = some o) (hat : ∃ es, o.ExactDict ∧ o.data = .dict es ep ∧ KeysOf (IK c) es ∧ Pairs (IK c) es.toList kvs ∧ (kvs.map (·.1)).Nodup) :
    Itr c z I kvs.length (fun i v => ∃ k x t, kvs[i]? = some (k, x) ∧ v = .int k t) (StDict d kvs.length ep) where
  item := fun A z1 y L m ls s oi i Q hh hzz hS st hi hQ => by
    have P := hS.lv _ (.head _)
    have e := hS.fz _ _ (hzz _ _ hz)
    obtain ⟨es, r⟩ := hat
    refine wpAny_pyNext_dict_item (knd := IK c) (k := kvs[i].1) (v := kvs[i].2) ⟨oi, P.1, st.1, st.2⟩ ⟨o, es, e, r⟩ (by simp [hi]) fun key h' hk hit' hs' => ?_
    obtain ⟨o', e', hc, hd⟩ := hit'
    obtain ⟨t, rfl⟩ := Value.isInt_shape hk
    exact hQ _ o' _ ⟨kvs[i].1, kvs[i].2, t, by simp [hi], rfl⟩ ⟨hc, hd⟩ (hS.changed e' hs'.extBut)
  done := fun A z1 y L m ls s oi Q hh hzz hS st hQ => by
    have P := hS.lv _ (.head _)
    have e := hS.fz _ _ (hzz _ _ hz)
    obtain ⟨es, r⟩ := hat
    exact wpAny_pyNext_dict_end (knd := IK c) hh ⟨oi, P.1, st.1, st.2⟩ ⟨o, es, e, r⟩ (by simp) fun h' he' => hQ _ (hS.dropExt he')
  go := fun A z1 y L m ls s o i target v Q hS st hQ => go_plain (hS.lv _ (.head _)).1 st.1 st.2 (by decide) hQ
  self := fun A z1 y L m ls s oi i Q hS st hQ => by
    exact wpAny_pyIter_keyiter ⟨oi, (hS.lv _ (.head _)).1, st.1, st.2⟩ hQ
def allBut (h : Heap) (L : Addr) : List (Addr × Obj) := (List.range h.objs.size).filterMap fun b => if b = L then none else (h.get? b).map (b, ·)
theorem mem_allBut {h : Heap} {L b : Addr} {o : Obj} : (b, o) ∈ allBut h L ↔ b ≠ L ∧ h.get? b = some o := by
  unfold allBut
  rw [List.mem_filterMap]
  constructor
  · rintro ⟨x, hx, e⟩
    split at e
    · cases e
    · rename_i n
      obtain ⟨o', ho', e'⟩ := Option.map_eq_some_iff.mp e
      cases e'; exact ⟨n, ho'⟩
  · rintro ⟨n, e⟩
    exact ⟨b, List.mem_range.mpr (Heap.lt_size e), by rw [if_neg n, e]; rfl⟩
theorem S.fr (h : S c z y L m ls s) : Fr {} L s.heap m := ⟨h.ns, fun b o e => by simp [Heap.get?] at e, Nat.zero_le _⟩
theorem empty_get (b : Addr) : ({} : Heap).get? b = none := by simp [Heap.get?]
theorem S.news (h : S c z y L m ls s) : News {} L s.heap (allBut s.heap L) := fun p hp => by
  obtain ⟨n, e⟩ := mem_allBut.mp (show (p.1, p.2) ∈ _ from hp)
  exact ⟨e, n, empty_get _⟩
theorem S.viaNews1 (h : S c z y L m ls s) {h' : Heap} {t : Nat} {D : Addr} {o : Obj} (F : Fr {} L h' m) (N : News {} L h' ((D, o) :: allBut s.heap L)) (hl : ∀ q ∈ allBut s.heap L, q.1 ≠ D) : S c z y L m ((D, o) :: ls) { s with heap := h', toks := t } := by
  have k : ∀ b x, b ≠ L → s.heap.get? b = some x → h'.get? b = some x := fun b x n e => (N (b, x) (.tail _ (mem_allBut.mpr ⟨n, e⟩))).1
  have hD := N (D, o) (.head _)
  have hf : s.heap.get? D = none := by
    cases q : s.heap.get? D with
    | none => rfl
    | some x => exact absurd rfl (hl (D, x) (mem_allBut.mpr ⟨hD.2.1, q⟩))
  have na : ∀ {b : Addr} {x : Obj} {f : FM}, f b = some x → f L = none → b ≠ L := fun e n q => by rw [q, n] at e; cases e
  obtain ⟨n1, n2, n3, n4⟩ := h.none_of hf
  exact {
    same := h.same, base := h.base
    fz := fun b x e => k b x (na e h.zL) (h.fz b x e)
    fy := fun b x e => k b x (na e h.yL) (h.fy b x e)
    zy := h.zy, ns := F.ns, zL := h.zL, yL := h.yL
    lv := fun p hp => (List.mem_cons.mp hp).elim (fun e => by subst e; exact ⟨hD.1, n3, n1, n2⟩) fun hp => ⟨k _ _ (h.lv p hp).2.1 (h.lv p hp).1, (h.lv p hp).2⟩
    nd := List.nodup_cons.mpr ⟨n4, h.nd⟩ }
end
end
section
open PySem PySem.W PySem.Calls PyProof.Rows
set_option maxRecDepth 100000
set_option maxHeartbeats 8000000
set_option linter.unusedVariables false
inductive Ent : List DictEntry → List (Str × Value) → Prop
  | nil : Ent [] []
  | cons {h x t v es fs} : Ent es fs → Ent (⟨h, .str x t, v⟩ :: es) ((x, v) :: fs)
def putF : List (Str × Value) → Str → Value → List (Str × Value)
  | [], x, v => [(x, v)]
  | p :: r, x, v => if p.1 = x then (x, v) :: r else p :: putF r x v
def FieldsO (o : Obj) (fs : List (Str × Value)) : Prop := ∃ es n, o = dictOf es n ∧ Ent es fs
theorem isStr_str {x y : Str} {t : Tok} : (Value.str x t).isStr y = (x == y) := rfl
theorem Ent.get {x : Str} {v : Value} : ∀ {es fs}, Ent es fs → fs.lookup x = some v → getL x es = some (some v)
  | _, _, .nil, e => by simp at e
  | _, _, .cons (h := hh) (x := y) (t := t) (v := u) (es := es) (fs := fs) r, e => by
    have ih := r.get (x := x) (v := v)
    unfold getL
    simp only [List.find?_cons]
    have : (({ hash := hh, key := .str y t, val := u } : DictEntry).key.isStr x) = (y == x) := rfl
    rw [this]
    by_cases q : y = x
    · subst q
      simp [List.lookup_cons] at e
      subst e; simp
    · have q' : (y == x) = false := beq_eq_false_iff_ne.mpr q
      have q2 : (x == y) = false := beq_eq_false_iff_ne.mpr fun h => q h.symm
      simp only [List.lookup_cons, q2] at e
      have := ih e
      unfold getL at this
      rw [q']
      dsimp only
      split at this
      · rename_i en hen; rw [hen]; exact this
      · split at this <;> cases this
theorem Ent.length {es fs} (h : Ent es fs) : es.length = fs.length := by induction h <;> simp_all
theorem Ent.noRef : ∀ {es fs}, Ent es fs → es.any (·.refKey) = false
  | _, _, .nil => rfl
  | _, _, .cons r => by rw [List.any_cons, r.noRef]; rfl
theorem Ent.found {es fs} (x : Str) (h : Ent es fs) : (getL x es).isSome = true := by
  unfold getL
  split
  · rfl
  · rw [h.noRef]; rfl
theorem Ent.miss {x : Str} : ∀ {es fs}, Ent es fs → fs.lookup x = none → getL x es = some none := fun {es fs} h e => by
  have key : es.find? (·.key.isStr x) = none := by
    induction h with
    | nil => rfl
    | cons r ih =>
      rename_i hh y t u es fs
      by_cases q : x = y
      · subst q; simp [List.lookup_cons] at e
      · have q2 : (x == y) = false := beq_eq_false_iff_ne.mpr q
        have q3 : (y == x) = false := beq_eq_false_iff_ne.mpr fun h => q h.symm
        simp only [List.lookup_cons, q2] at e
        rw [List.find?_cons]
        have : (({ hash := hh, key := .str y t, val := u } : DictEntry).key.isStr x) = (y == x) := rfl
        rw [this, q3]; exact ih e
  unfold getL
  rw [key, h.noRef]; rfl
theorem Ent.put {x : Str} {hsh : Int} {t : Tok} {v : Value} : ∀ {es fs}, Ent es fs → Ent (putL x hsh (.str x t) v es) (putF fs x v)
  | _, _, .nil => .cons .nil
  | _, _, .cons (h := hh) (x := y) (t := t') (v := u) (es := es) (fs := fs) r => by
    unfold putL putF
    have : (({ hash := hh, key := .str y t', val := u } : DictEntry).key.isStr x) = (y == x) := rfl
    rw [this]
    by_cases q : y = x
    · subst q; simp; exact .cons r
    · have q3 : (y == x) = false := beq_eq_false_iff_ne.mpr q
      rw [q3, if_neg q]; exact .cons r.put
theorem putF_length (fs : List (Str × Value)) (x : Str) (v : Value) : (putF fs x v).length ≤ fs.length + 1 := by
  induction fs with
  | nil => simp [putF]
  | cons p r ih => unfold putF; split <;> simp; omega
section
variable {c : Cx} {A : Around} {z y : FM} {L a : Addr} {m : Str → Option Value} {ls : List (Addr × Obj)} {s : Shared} {env : Env}
theorem S.inst (hS : S c z y L m ls s) {x C dx : Addr} {o : Obj} (hx : z x = some (instObj C dx)) (ho : s.heap.get? dx = some o) : InstAt s.heap x (instObj C dx) C (some o) := ⟨hS.fz _ _ hx, rfl, rfl, ho⟩
theorem zGetA {x C dx : Addr} {o : Obj} {fs : List (Str × Value)} {name : Str} {v : Value} {attr : Option Value} {expr : Bool} {Q : Value → Shared → Prop} (ok : c.Ok) (hS : S c z y L m ls s) (hx : z x = some (instObj C dx)) (ho : s.heap.get? dx = some o) (hF : FieldsO o fs)
    (hg : plainGet (hd.heap_1 c.w.params) C name = true) (hh : hasDictIn (hd.heap_1 c.w.params) C = true) (ha : findIn (hd.heap_1 c.w.params) (.ref C) name = some attr) (hn : noGet (hd.heap_1 c.w.params) attr = true)
    (hv : fs.lookup name = some v) (hi : handedIn v = true) (h : ∀ s', S c z y L m ls s' → s'.heap = s.heap → Q v s') : W c A (getAttr (.ref x) name expr) Q s := by
  obtain ⟨es, n, rfl, hE⟩ := hF
  exact get_value (hS.K ok) (hS.inst hx ho) (plainGet_of hg).1 (findObj_own hh ha hn (by rw [lookIn_dict]; exact hE.get hv)) hi (h _ hS.toks rfl)
theorem zSetA {x C dx : Addr} {o : Obj} {fs : List (Str × Value)} {name : Str} {v : Value} {Q : Unit → Shared → Prop} (ok : c.Ok) (hS : S c z y L m ((dx, o) :: ls) s) (hx : z x = some (instObj C dx)) (hF : FieldsO o fs) (hz : fs.length ≤ 900)
    (hs : findIn (hd.heap_1 c.w.params) (.ref C) "__setattr__" = some (some (.builtin "object.__setattr__"))) (hp : plainOver (hd.heap_1 c.w.params) C = true) (ht : takerIn (hd.heap_1 c.w.params) C name = some none) (hh : hasDictIn (hd.heap_1 c.w.params) C = true)
    (h : ∀ o' s', FieldsO o' (putF fs name v) → S c z y L m ((dx, o') :: ls) s' → Q () s') : W c A (setAttr (.ref x) name v) Q s := by
  obtain ⟨es, n, rfl, hE⟩ := hF
  have P := hS.lv _ (.head _)
  have N : News {} L s.heap ([] ++ (dx, dictOf es n) :: (allBut s.heap L).filter (fun q => q.1 ≠ dx)) := fun p hp => by
    rcases List.mem_cons.mp hp with rfl | hp
    · exact ⟨P.1, P.2.1, empty_get _⟩
    · exact hS.news p (List.mem_filter.mp hp).1
  refine set_plain (hS.K ok) (hS.inst hx P.1) hs (osa_dict (s := { s with toks := s.toks + 1 }) (hS.toks (t := s.toks + 1)).fr N (hS.K ok) (hS.inst hx P.1) rfl hp ht hh (by rw [lookIn_dict]; exact hE.found _) (fun _ h => by cases h) (fun p hp => by have := (List.mem_filter.mp hp).2; simpa using this)
    (by rw [putName_dict]) rfl (by rw [hE.put.length]; have := putF_length fs name v; omega) fun h' F' N' => ?_)
  refine h (dictOf (putL name (PyData.keyHash c.w.params name) (.str name (s.toks + 1)) v es) (putN name es n)) _ ⟨_, _, rfl, hE.put⟩ ?_
  have D := (N' _ (.head _)).1
  have k : ∀ b x, b ≠ L → b ≠ dx → s.heap.get? b = some x → h'.get? b = some x := fun b x n1 n2 e => (N' (b, x) (.tail _ (List.mem_filter.mpr ⟨mem_allBut.mpr ⟨n1, e⟩, by simpa using n2⟩))).1
  have na : ∀ {b : Addr} {x : Obj} {f : FM} {q : Addr}, f b = some x → f q = none → b ≠ q := fun e n q => by rw [q, n] at e; cases e
  exact {
    same := hS.same, base := hS.base
    fz := fun b x e => k b x (na e hS.zL) (na e P.2.2.1) (hS.fz b x e)
    fy := fun b x e => k b x (na e hS.yL) (na e P.2.2.2) (hS.fy b x e)
    zy := hS.zy, ns := F'.ns, zL := hS.zL, yL := hS.yL
    lv := fun p hp => (List.mem_cons.mp hp).elim (fun e => by subst e; exact ⟨D, P.2⟩) fun hp => by
      have Q := hS.lv p (.tail _ hp)
      exact ⟨k _ _ Q.2.1 (fun e => (List.nodup_cons.mp hS.nd).1 (List.mem_map.mpr ⟨p, hp, e⟩)) Q.1, Q.2⟩
    nd := hS.nd }
theorem zGetM {x C dx f : Addr} {o : Obj} {fs : List (Str × Value)} {name : Str} {pl : Sem Bool} {Q : Value × List Value → Shared → Prop} (ok : c.Ok) (hS : S c z y L m ls s) (hx : z x = some (instObj C dx)) (ho : s.heap.get? dx = some o) (hF : FieldsO o fs)
    (hg : plainGet (hd.heap_1 c.w.params) C name = true) (hf : findIn (hd.heap_1 c.w.params) (.ref C) name = some (some (.ref f))) (ht : isFn (hd.heap_1 c.w.params) (.ref f) = true)
    (hl : fs.lookup name = none) (h : Q (.ref f, [.ref x]) s) : W c A (getMethod (.ref x) name pl) Q s := by
  obtain ⟨es, n, rfl, hE⟩ := hF
  exact method_fn (hS.K ok) (hS.inst hx ho) (plainGet_of hg).1 (plainGet_of hg).2 hf (beq_iff_eq.mp ht) (by show (lookIn name (dictOf es n)).map _ = _; rw [lookIn_dict, hE.miss hl]; rfl) h
theorem zAssignA {o : Expr} {attr : Str} {p1 p2 : Pos} {value : Expr} {rest : List Stmt} {Q : Flow → Shared → Prop}
    (h : W c A (eval value env) (fun v s₁ => W c A (eval o env) (fun ov s₂ => W c A (setAttr ov attr v) (fun _ s3 => W c A (execs rest env) Q s3) s₂) s₁) s)
    (hs : swapsWith value (some (.Attribute o attr p1)) p2.line env = pure false := by rfl) : W c A (execs (.Assign [.Attribute o attr p1] value p2 :: rest) env) Q s :=
  zSeq (plainObj_wpAny_Assign_Attribute (W.mono h fun v s1 h1 => W.mono h1 fun ov s2 h2 => W.mono h2 fun _ s3 h3 => ⟨rfl, h3⟩) hs)
theorem zAssignI {o i : Expr} {p1 p2 : Pos} {value : Expr} {rest : List Stmt} {Q : Flow → Shared → Prop}
    (h : W c A (eval value env) (fun v s₁ => W c A (eval o env) (fun ov s₂ => W c A (eval i env) (fun iv s3 => W c A (setItem ov iv v) (fun _ s4 => W c A (execs rest env) Q s4) s3) s₂) s₁) s)
    (hs : swapsWith value (some (.Subscript o i p1)) p2.line env = pure false := by rfl) : W c A (execs (.Assign [.Subscript o i p1] value p2 :: rest) env) Q s :=
  zSeq (wpAny_Assign_Subscript (W.mono h fun v s1 h1 => W.mono h1 fun ov s2 h2 => W.mono h2 fun _ s3 h3 => W.mono h3 fun _ s4 h4 => ⟨rfl, h4⟩) hs)
theorem zAugA {o value : Expr} {attr : Str} {tpos pos : Pos} {op : Operator} {rest : List Stmt} {Q : Flow → Shared → Prop}
    (h : W c A (eval o env) (fun ov s₁ => W c A (getAttr ov attr true) (fun old s₂ => W c A (eval value env) (fun v s₃ => W c A (inplaceOp op old v) (fun new s₄ => W c A (setAttr ov attr new) (fun _ s5 => W c A (execs rest env) Q s5) s₄) s₃) s₂) s₁) s) :
    W c A (execs (.AugAssign (.Attribute o attr tpos) op value pos :: rest) env) Q s :=
  zSeq (wpAny_AugAssign_AttributeAny (W.mono h fun _ _ h => W.mono h fun _ _ h => W.mono h fun _ _ h => W.mono h fun _ _ h => W.mono h fun _ _ h => ⟨rfl, h⟩))
theorem zAugI {o i value : Expr} {tpos pos : Pos} {op : Operator} {rest : List Stmt} {Q : Flow → Shared → Prop}
    (h : W c A (eval o env) (fun ov s₁ => W c A (eval i env) (fun iv s₂ => W c A (getItem ov iv) (fun old s₃ =>
          W c A (eval value env) (fun v s₄ => W c A (inplaceOp op old v) (fun new s₅ => W c A (setItem ov iv new) (fun _ s6 => W c A (execs rest env) Q s6) s₅) s₄) s₃) s₂) s₁) s)
    (hi : ∀ ov iv new, augStore i ov iv new = (do holding [new, ov, iv] (setItem ov iv new); release [new, ov, iv] []; pure .next) := by intros; rfl) :
    W c A (execs (.AugAssign (.Subscript o i tpos) op value pos :: rest) env) Q s :=
  zSeq (wpAny_AugAssign_SubscriptAny (W.mono h fun _ _ h => W.mono h fun _ _ h => W.mono h fun _ _ h => W.mono h fun _ _ h => W.mono h fun _ _ h => W.mono h fun _ _ h => ⟨rfl, h⟩) hi)
theorem zAttr {value : Expr} {attr : Str} {pos : Pos} {Q : Value → Shared → Prop} (h : W c A (eval value env) (fun o s₁ => W c A (getAttr o attr true) Q s₁) s)
    (he : eval (.Attribute value attr pos) env = (do
      let o ← eval value env
      standAt pos.atName
      let r ← holding [o] (getAttr o attr true)
      letTemporaryGo value o r
      pure r) := by with_unfolding_all rfl) : W c A (eval (.Attribute value attr pos) env) Q s := Attribute_any_ h he
theorem zLenL {l : Addr} {vs : List Value} {n : Nat} {Q : Value → Shared → Prop} (hS : S c z y L m ls s) (hl : s.heap.get? l = some (lstO vs n)) (hn : vs.length ≤ 1000000) (h : ∀ t s', S c z y L m ls s' → s'.heap = s.heap → Q (.int vs.length t) s') :
    W c A (call (.builtin "len") [.ref l]) Q s := by
  have e : (vs.toArray.size : Int) = vs.length := by simp
  refine Calls.call_len_list (isList_of hl) (by rw [e]; omega) ?_
  rw [e]; exact h _ _ hS.toks rfl
theorem zPop {l : Addr} {vs : List Value} {n : Nat} {v : Value} {Q : Value → Shared → Prop} (hS : S c z y L m ((l, lstO (vs ++ [v]) n) :: ls) s) (h : ∀ n' s', S c z y L m ((l, lstO vs n') :: ls) s' → Q v s')
    (hsz : vs.length ≤ 1000000) : W c A (call (.builtin "list.pop") [.ref l]) Q s := by
  have P := hS.lv _ (.head _)
  refine call_meets PySem.F.slot_list_pop ⟨_, P.1, rfl⟩ PySem.F.entry_list_pop (PySem.F.args_list_pop_1 _) (MeetsSeq.list_pop_last l (vs ++ [v]).toArray n v (by simp) (by simp [sizeLine_eq]; omega)) ⟨P.1, h (n + 1) _ ?_⟩
  have e : Obj.mapSeq (fun xs => xs.eraseIdxIfInBounds ((vs ++ [v]).toArray.size - 1)) (lstO (vs ++ [v]) n) = lstO vs (n + 1) := by
    have e1 : (vs ++ [v]).eraseIdx vs.length = vs := by rw [List.eraseIdx_append_of_length_le (Nat.le_refl _)]; simp
    simp [Obj.mapSeq, lstO, e1]
  have := hS.updated (f := Obj.mapSeq fun xs => xs.eraseIdxIfInBounds ((vs ++ [v]).toArray.size - 1)) (by rw [e]; rfl) (t := s.toks)
  rw [e] at this
  exact this
theorem zGetPop {pl : Sem Bool} {l : Addr} {vs : List Value} {n : Nat} {Q : Value × List Value → Shared → Prop} (hl : s.heap.get? l = some (lstO vs n)) (h : Q (.builtin "list.pop", [.ref l]) s) :
    W c A (getMethod (.ref l) (Str.ofString "pop") pl) Q s := zMethL PySem.F.slot_list_pop PySem.F.type_list_pop hl h
theorem zListOf {l : Addr} {vs : List Value} {n : Nat} {Q : Value → Shared → Prop} (hS : S c z y L m ls s) (hl : s.heap.get? l = some (lstO vs n)) (hn : vs.length ≤ 1000000) (h : ∀ D n' s', S c z y L m ((D, lstO vs n') :: ls) s' → Q (.ref D) s') :
    W c A (call (.type "list") [.ref l]) Q s := by
  refine call_list_seq l (.inl rfl) hl rfl rfl (fun h' c' hk hD => ?_) (by simp [sizeLine_eq]; omega)
  obtain ⟨n1, n2, n3, n4⟩ := hS.none_of (fresh_none s.heap)
  have k := hS.keepsTo (h' := h') (t := s.toks) hk
  exact h _ c' _ { k with
    lv := fun p hp => (List.mem_cons.mp hp).elim (fun e => by subst e; exact ⟨hD, n3, n1, n2⟩) (k.lv p)
    nd := List.nodup_cons.mpr ⟨n4, hS.nd⟩ }
theorem zTupleOf {l : Addr} {vs : List Value} {n : Nat} {Q : Value → Shared → Prop} (hS : S c z y L m ls s) (hl : s.heap.get? l = some (lstO vs n)) (hn : vs.length ≤ 1000000) (h : ∀ D z' s', FM.le z z' → z' D = some (tupO vs) → S c z' y L m ls s' → Q (.ref D) s') :
    W c A (call (.type "tuple") [.ref l]) Q s := by
  refine call_tuple_list (isList_of hl) (fun h' hk => ?_) (by simp [sizeLine_eq]; omega)
  have k := (hS.keepsTo (h' := h') (t := s.toks) hk).allocZ (tupO vs) (t := s.toks)
  exact h _ _ _ k.1 FM.put_self k.2
theorem zEqNil {l b : Addr} {vs : List Value} {n n2 : Nat} {Q : Value → Shared → Prop} (hl : s.heap.get? l = some (lstO vs n)) (hb : s.heap.get? b = some (lstO [] n2)) (hu : A.units < cLine) (h : Q (.bool vs.isEmpty) s) :
    W c A (compareOp .Eq (.ref l) (.ref b)) Q s := by
  cases vs with
  | nil => exact SeqAt.eq_listAt (e := fun _ => true) (isList_of hl) (isList_of hb) rfl hu (fun j h1 => absurd h1 (by simp)) (by simpa using h)
  | cons v r => exact SeqAt.eq_list_lengthsAt (isList_of hl) (isList_of hb) (by simp) hu (by simpa using h)
theorem zEqNilT {l b : Addr} {vs : List Value} {Q : Value → Shared → Prop} (hl : s.heap.get? l = some (tupO vs)) (hb : s.heap.get? b = some (tupO [])) (hu : A.units < cLine) (h : Q (.bool vs.isEmpty) s) :
    W c A (compareOp .Eq (.ref l) (.ref b)) Q s := by
  refine SeqAt.eq_tupleAt (e := fun _ => true) (isTuple_of hl) (isTuple_of hb) hu (fun j h1 h2 => absurd h2 (by simp)) ?_
  cases vs with
  | nil => simpa using h
  | cons v r => simpa using h
end
end
section
open PySem PySem.W PySem.Calls PyProof.Rows
set_option maxRecDepth 100000
set_option maxHeartbeats 8000000
set_option linter.unusedVariables false
section
variable {c : Cx} {z y : FM} {L : Addr} {m : Str → Option Value} {ls : List (Addr × Obj)} {s : Shared}
theorem S.adopt {a : Addr} {o : Obj} (h : S c z y L m ls s) (e : s.heap.get? a = some o) (n1 : z a = none) (n2 : y a = none) (n3 : a ≠ L) (n4 : a ∉ ls.map (·.1)) : S c z y L m ((a, o) :: ls) s :=
  { h with lv := fun p hp => (List.mem_cons.mp hp).elim (fun e' => by subst e'; exact ⟨e, n3, n1, n2⟩) (h.lv p)
           nd := List.nodup_cons.mpr ⟨n4, h.nd⟩ }
theorem S.adopts : ∀ {cells : List (Addr × Obj)}, S c z y L m ls s → (∀ p ∈ cells, s.heap.get? p.1 = some p.2 ∧ z p.1 = none ∧ y p.1 = none ∧ p.1 ≠ L ∧ p.1 ∉ ls.map (·.1)) → (cells.map (·.1)).Nodup → S c z y L m (cells ++ ls) s
  | [], h, _, _ => h
  | p :: r, h, hp, nd => by
    obtain ⟨e, n1, n2, n3, n4⟩ := hp p (.head _)
    have nd' := List.nodup_cons.mp nd
    refine (S.adopts h (fun q hq => hp q (.tail _ hq)) nd'.2).adopt e n1 n2 n3 ?_
    rw [List.map_append]
    intro q
    exact (List.mem_append.mp q).elim nd'.1 n4
end
section
variable {c : Cx} {n : Nat} {z : FM} {f : Addr} {args : List Value} {kw : List (Str × Value)} {ls : List (Addr × Obj)} {Out : FM → Value → List (Addr × Obj) → Prop}
  {name qual : Str} {params : Arguments} {body : List Stmt} {scope : Scope} {dV kV doc pm cdv ct oc : Value} {an od : Option Addr} {osl : Array (Option Value)} {binds : List (Str × Value)} {m₀ cm₀ : Str → Option Value}
theorem cellsAre_mem {cm : Str → Option Value} : ∀ {cs : List (Str × Addr)} {cells : List (Addr × Obj)}, CellsAre cm cs cells → cells.map (·.1) = cs.map (·.2)
  | _, _, .nil => rfl
  | _, _, .cons _ r => by simp [cellsAre_mem r]
theorem Fn.cells (ok : c.Ok) (ho : (hd.heap_1 c.w.params).lookup f = some ⟨oc, od, .func (fnX name qual params body scope [] dV kV doc pm an cdv ct), osl⟩) (hcd : codeIn (hd.heap_1 c.w.params) cdv qual = true)
    (hbind : ∀ s : Shared, (hd.heap_1 c.w.params).In s.heap → BindsTo s (fnX name qual params body scope [] dV kV doc pm an cdv ct) ⟨args, kw⟩ binds)
    (hkind : (binds.all fun y => scope.names.lookup y.1 == some .local || scope.names.lookup y.1 == some .cell) = true) (hnd : ((cellsFrom 0 scope.names []).map (·.1)).Nodup)
    (hm : ∀ L, bindL (envOfC qual scope L f cdv).kindOf binds (fun _ => none) = m₀) (hcm : ∀ L, bindC (envOfC qual scope L f cdv).kindOf binds (fun _ => none) = cm₀)
    (hco : scope.isCoroutine = false) (hgen : scope.isGenerator = false) (hk : scope.kind = .function)
    (h : ∀ A y L s cells, Room A n → CellsAre cm₀ (cellsFrom (L + 1) scope.names []) cells → S c z y L m₀ (cells ++ ls) s → W c A (execs body (envX qual scope L f cdv (cellsFrom (L + 1) scope.names []))) (Ret c z y L Out) s) : Fn c (n + 1) z f args kw ls Out := by
  intro A y L m rest s Q R hS hQ
  refine codeAny_call_function (by have := R.2.1; omega) (hS.K ok _ _ ho) rfl hco hgen rfl (codeRec_of (hS.K ok) hcd) ((hbind s (hS.K ok)) _ _ _ _ ?_)
  refine wpAny_newFunctionEnv_cells hk (kindsX hkind _) fun env' he s' x => ?_
  subst he
  refine ⟨(hS.nolimit ok).keeps x.toInCall.keep, codeAny_func ?_⟩
  obtain ⟨h₁, tk, rfl, _⟩ := x.done
  have hk₁ := x.toInCall.keep
  obtain ⟨cells, NC, Y⟩ := Cl.news (h₀ := s.heap) (Nat.le_refl _) fun n c hm => ⟨x.cell n c (lookup_of_mem_nodup (cellsFrom_names scope.names 0 (s.heap.objs.size + 1) [] [] rfl ▸ hnd) hm), x.above n c hm⟩
  have hE : S c z (keptBut s.heap z ls) s.heap.objs.size m₀ ls { s with heap := h₁, toks := tk } := hS.enter (hm s.heap.objs.size ▸ x.toInCall.ns) hk₁
  have Y' : CellsAre cm₀ (cellsFrom (s.heap.objs.size + 1) scope.names []) cells := hcm s.heap.objs.size ▸ Y
  have hE' : S c z (keptBut s.heap z ls) s.heap.objs.size m₀ (cells ++ ls) { s with heap := h₁, toks := tk } := by
    refine hE.adopts (fun p hp => ?_) ?_
    · have N := NC p hp
      have lo := hS.none_of N.2.2
      refine ⟨N.1, lo.1, ?_, N.2.1, fun q => lo.2.2.2 (by rw [List.map_append]; exact List.mem_append_left _ q)⟩
      cases q : keptBut s.heap z ls p.1 with
      | none => rfl
      | some o => have := (keptBut_some q).2.2; rw [N.2.2] at this; cases this
    · rw [cellsAre_mem Y', List.nodup_iff_pairwise_ne]
      exact List.pairwise_map.mpr x.apart
  refine wpAny_mono (h _ _ _ _ cells (Room.deeper R) Y' hE') (fun fl s' hr => ?_) fun _ _ x => x.elim
  obtain ⟨z', ls', m', hz, ho', hS'⟩ := hr
  have := hQ (retOf fl) z' ls' s' hz ho' (hS.leave hS')
  cases fl <;> exact this
end
section
variable {c : Cx} {A : Around} {z y : FM} {L : Addr} {m : Str → Option Value} {ls : List (Addr × Obj)} {s : Shared} {env : Env}
theorem eNameL {x : Str} {pos : Pos} {v : Value} {Q : Value → Shared → Prop} (hS : S c z y L m ls s) (hv : m x = some v) (h : Q v s) (hL : env.locals = L := by rfl)
    (hk : env.scope.kind = .function := by rfl) (hx : env.kindOf x = some .local := by rfl) (hd : (x == ("__debug__" : Str)) = false := by decide) :
    W c A (eval (.Name x pos) env) Q s := wpAny_Name (wpAny_loadName_local hk hx (hL ▸ hS.ns) hv h) hd
theorem eNameG {x : Str} {pos : Pos} {v : Value} {Q : Value → Shared → Prop} (ok : c.Ok) (hS : S c z y L m ls s) (e : nsIn (hd.heap_1 c.w.params) mainGlobals x = some (some v)) (h : Q v s) (hG : env.globals = mainGlobals := by rfl)
    (hk : env.scope.kind = .function := by rfl) (hx : env.kindOf x = some .globalImplicit := by rfl) (hd : (x == ("__debug__" : Str)) = false := by decide) :
    W c A (eval (.Name x pos) env) Q s :=
  Name_function_global hk hx (loadGlobal_global (hG ▸ ok.g.keeps hS.inH) (mg_of ok.K ok.g e) h) hd
theorem eNameB {x : Str} {pos : Pos} {v : Value} {Q : Value → Shared → Prop} (ok : c.Ok) (hS : S c z y L m ls s) (e : nsIn (hd.heap_1 c.w.params) mainGlobals x = some none) (hv : bootBuiltins x = some v) (h : Q v s) (hG : env.globals = mainGlobals := by rfl) (hB : env.builtins = builtinsNs := by rfl)
    (hn : x ≠ "__name__" := by decide) (hk : env.scope.kind = .function := by rfl) (hx : env.kindOf x = some .globalImplicit := by rfl) (hd : (x == ("__debug__" : Str)) = false := by decide) :
    W c A (eval (.Name x pos) env) Q s :=
  Name_function_global hk hx (loadGlobal_builtin (hG ▸ ok.g.keeps hS.inH) (mg_none_of ok.K ok.g e) (hB ▸ ok.b.keeps hS.inH) ((ok.builtins x hn).trans hv) h) hd
theorem eNameC {x : Str} {pos : Pos} {q : Addr} {Q : Value → Shared → Prop} (h : ∃ o v, s.heap.get? q = some o ∧ o.data = .cell (some v) ∧ Q v s) (hq : env.cells.lookup x = some q := by rfl)
    (hk : env.scope.kind = .function := by rfl) (hx : env.kindOf x = some .cell := by rfl) (hb : (x == ("__debug__" : Str)) = false := by decide) :
    W c A (eval (.Name x pos) env) Q s := let ⟨o, _, ho, hc, h⟩ := h; wpAny_Name (wpAny_loadName_cell hk hx hq ⟨o, ho, hc⟩ h) hb
theorem eNameF {x : Str} {pos : Pos} {q : Addr} {Q : Value → Shared → Prop} (h : ∃ o v, s.heap.get? q = some o ∧ o.data = .cell (some v) ∧ Q v s) (hq : env.cells.lookup x = some q := by rfl)
    (hk : env.scope.kind = .function := by rfl) (hx : env.kindOf x = some .free := by rfl) (hb : (x == ("__debug__" : Str)) = false := by decide) (hn : (x == ("__classdict__" : Str)) = false := by decide) :
    W c A (eval (.Name x pos) env) Q s := let ⟨o, _, ho, hc, h⟩ := h; wpAny_Name (wpAny_loadName_free hk hx hq ⟨o, ho, hc⟩ h hn) hb
theorem eStoreL {x : Str} {v : Value} {Q : Unit → Shared → Prop} (hS : S c z y L m ls s) (h : ∀ s', S c z y L (upd m x v) ls s' → Q () s') (hL : env.locals = L := by rfl)
    (hk : env.scope.kind = .function := by rfl) (hx : env.kindOf x = some .local := by rfl) : W c A (storeName env x v) Q s := by
  subst hL
  exact wpAny_storeName_local hx hS.ns (fun h' hn hs => h _ (hS.bound hn hs)) (by rw [hk]; rfl)
theorem eStoreC {x : Str} {v : Value} {q : Addr} {o : Obj} {v0 : Option Value} {Q : Unit → Shared → Prop} (hS : S c z y L m ((q, o) :: ls) s) (hc : o.data = .cell v0) (h : ∀ o' s', o'.data = .cell (some v) → S c z y L m ((q, o') :: ls) s' → Q () s') (hq : env.cells.lookup x = some q := by rfl)
    (hk : env.scope.kind = .function := by rfl) (hx : env.kindOf x = some .cell := by rfl) : W c A (storeName env x v) Q s := by
  refine wpAny_storeName_cell hk hx hq ⟨o, (hS.lv _ (.head _)).1, hc⟩ fun h' hv hs => ?_
  obtain ⟨o', ho', hd'⟩ := hv
  exact h o' _ hd' (hS.changed ho' hs.extBut)
end
section
variable {c : Cx} {A : Around} {z y : FM} {L : Addr} {m : Str → Option Value} {ls : List (Addr × Obj)} {s : Shared} {env : Env}
def Tests (ifs : List Expr) (env : Env) : Sem Bool := forIn ifs true fun c r => if r = true then do let ok ← isTrue c env (eval c env); pure (ForInStep.yield ok) else pure (ForInStep.yield r)
theorem zTests0 {Q : Bool → Shared → Prop} (h : Q true s) : W c A (Tests [] env) Q s := wpAny_tests_nil h
theorem zTests1 {e : Expr} {Q : Bool → Shared → Prop} (h : W c A (isTrue e env (eval e env)) Q s) : W c A (Tests [e] env) Q s := wpAny_tests_one h
theorem compLoopW {elt target iter : Expr} {ifs : List Expr} {scope : Scope} {pos : Pos} {it acc : Value} {R : Result → Shared → Prop} (I : Nat → Shared → Prop)
    (turn : ∀ n s, I n s → W c A (pyNext it) (fun r s₁ => match r with
      | none => R (.ok .next) s₁
      | some v => W c A (letOwnedTupleGo target it v) (fun _ s₁' => W c A (assign target env v) (fun _ s₂ =>
          W c A (Tests ifs env) (fun ok s₃ =>
            if ok = true then W c A (eval elt env) (fun x s₄ => W c A (call (.builtin "list.append") [acc, x]) (fun _ s₅ => ∃ m, m < n ∧ I m s₅) s₄) s₃
            else ∃ m, m < n ∧ I m s₃) s₂) s₁') s₁) s)
    (n : Nat) (h : I n s) : codeAny (model PG c.w) A (.compLoop (.ListComp elt [⟨target, iter, ifs, 0⟩] scope pos) 0 it acc env) R s := by
  refine codeAny_loop rfl I (fun n s hI => ?_) n h
  show wpAny _ A ((compTurn (.ListComp elt [⟨target, iter, ifs, 0⟩] scope pos) 0 it acc env).onRaise (fun x => do noteFrame x env; theTreesLotGoes x)) _ _ s
  refine wpAny_noted ?_
  rw [compTurn_list]
  refine wpAny_bind (wpAny_standAt (wpAny_bind (W.any (W.mono (turn n s hI) fun r s₁ h₁ => ?_))))
  cases r with
  | none => exact wpAny_pure h₁
  | some v =>
    refine wpAny_bind (W.any (W.mono h₁ fun _ s₁' h₁' => ?_))
    refine wpAny_bind (W.any (W.mono h₁' fun _ s₂ h₂ => wpAny_bind (W.any (W.mono h₂ fun ok s₃ h₃ => ?_))))
    cases ok with
    | false => exact wpAny_pure ⟨rfl, h₃⟩
    | true =>
      exact wpAny_bind (wpAny_bind (W.any (W.mono h₃ fun x s₄ h₄ => wpAny_bind (W.any (W.mono h₄ fun _ s₅ h₅ => wpAny_pure (wpAny_pure ⟨rfl, h₅⟩))))))
theorem S.swap {C : Addr} {mC : Str → Option Value} {oL : Obj} (h : S c z (y.put L oL) C mC ls s) (hL : Heap.Ns s.heap L m) (yL : y L = none) : ∃ oC, y C = none ∧ s.heap.get? C = some oC ∧ S c z (y.put C oC) L m ls s := by
  obtain ⟨oC, es, ep, hC, hr⟩ := id h.ns
  have LC : L ≠ C := fun e => by have := h.yL; rw [e, FM.put_self] at this; cases this
  have yC : y C = none := by have := h.yL; rwa [FM.put_other (Ne.symm LC)] at this
  have oL' : s.heap.get? L = some oL := h.fy _ _ FM.put_self
  have zL : z L = none := by
    cases q : z L with
    | none => rfl
    | some x => have := h.zy L x q; rw [FM.put_self] at this; cases this
  have nn : ∀ b, y.put L oL b = none → b ≠ C → y.put C oC b = none := fun b e n => by
    rw [FM.put_other n]
    by_cases q : b = L
    · rw [q, FM.put_self] at e; cases e
    · rwa [FM.put_other q] at e
  refine ⟨oC, yC, hC, {
    same := h.same, base := h.base, fz := h.fz
    fy := fun b x e => by
      by_cases q : b = C
      · subst q; rw [FM.put_self] at e; cases e; exact hC
      · rw [FM.put_other q] at e
        exact h.fy b x (by rw [FM.put_other (fun e' => by rw [e', yL] at e; cases e)]; exact e)
    zy := fun b x e => nn b (h.zy b x e) fun q => by rw [q, h.zL] at e; cases e
    ns := hL, zL := zL
    yL := by rw [FM.put_other LC]; exact yL
    lv := fun p hp => ⟨(h.lv p hp).1, fun e => (by have := (h.lv p hp).2.2.2; rw [e, FM.put_self] at this; cases this), (h.lv p hp).2.2.1, nn _ (h.lv p hp).2.2.2 (h.lv p hp).2.1⟩
    nd := h.nd }⟩
theorem S.letGo {C : Addr} {oC : Obj} (h : S c z (y.put C oC) L m ls s) (yC : y C = none) {h' : Heap} {t : Nat} (hs : Heap.SameBut C s.heap h') : S c z y L m ls { s with heap := h', toks := t } := by
  have yy : ∀ b x, y b = some x → y.put C oC b = some x := FM.le_put yC
  have nn : ∀ b, y.put C oC b = none → y b = none ∧ b ≠ C := fun b e => by
    by_cases q : b = C
    · rw [q, FM.put_self] at e; cases e
    · rw [FM.put_other q] at e; exact ⟨e, q⟩
  exact {
    same := h.same, base := h.base
    fz := fun b x e => (hs.2 b (nn b (h.zy b x e)).2).trans (h.fz b x e)
    fy := fun b x e => (hs.2 b (fun q => by rw [q, yC] at e; cases e)).trans (h.fy b x (yy b x e))
    zy := fun b x e => (nn b (h.zy b x e)).1
    ns := h.ns.sameBut hs (nn L h.yL).2
    zL := h.zL, yL := (nn L h.yL).1
    lv := fun p hp => ⟨(hs.2 _ (nn _ (h.lv p hp).2.2.2).2).trans (h.lv p hp).1, (h.lv p hp).2.1, (h.lv p hp).2.2.1, (nn _ (h.lv p hp).2.2.2).1⟩
    nd := h.nd }
theorem S.comp (h : S c z y L m ls s) {oL : Obj} (hL : s.heap.get? L = some oL) {h₁ : Heap} {t : Nat} {C : Addr} {mC : Str → Option Value} (hC : s.heap.get? C = none) (hns : h₁.Ns C mC) (hk : ∀ b o, s.heap.get? b = some o → h₁.get? b = some o) :
    S c z (y.put L oL) C mC ls { s with heap := h₁, toks := t } := by
  obtain ⟨n1, n2, n3, n4⟩ := h.none_of hC
  exact {
    same := h.same, base := h.base
    fz := fun b x e => hk b x (h.fz b x e)
    fy := fun b x e => by
      by_cases q : b = L
      · subst q; rw [FM.put_self] at e; cases e; exact hk _ _ hL
      · rw [FM.put_other q] at e; exact hk b x (h.fy b x e)
    zy := fun b x e => by rw [FM.put_other (fun q => by rw [q, h.zL] at e; cases e)]; exact h.zy b x e
    ns := hns, zL := n1
    yL := by rw [FM.put_other n3]; exact n2
    lv := fun p hp => ⟨hk _ _ (h.lv p hp).1, fun e => n4 (e ▸ List.mem_map_of_mem hp), (h.lv p hp).2.2.1, by rw [FM.put_other (h.lv p hp).2.1]; exact (h.lv p hp).2.2.2⟩
    nd := h.nd }
def CompGo (c : Cx) (A : Around) (env : Env) (elt target iter : Expr) (ifs : List Expr) (scope : Scope) (pos : Pos) (cl : List (Str × Addr)) (RR : Value → Addr → Result → Shared → Prop) (it : Value) (s : Shared) : Prop :=
  W c A (newList []) (fun acc s₃ => W c A (newFunctionEnv scope env.globals cl [] env.qual none .none (some env)) (fun cenv s₄ =>
    codeAny (model PG c.w) A (.compStart (.ListComp elt [⟨target, iter, ifs, 0⟩] scope pos) 0 it acc { cenv with scope := relabel scope env }) (RR acc cenv.locals) s₄) s₃) s
theorem comp_go {elt target iter : Expr} {ifs : List Expr} {scope : Scope} {pos : Pos} {cl : List (Str × Addr)} {RR : Value → Addr → Result → Shared → Prop} {I : Addr} {n : Nat} {val : Nat → Value → Prop} {St : Nat → Obj → Prop} {o : Obj}
    (T : Itr c z I n val St) (hh : A.handled = none) (hS : S c z y L m ((I, o) :: ls) s) (st : St 0 o) (hcell : ∀ y ∈ scope.names, y.2 ≠ .cell) (hkind : scope.kind = .function) (hn : n ≤ 100000)
    (J : Nat → FM → (Str → Option Value) → List (Addr × Obj) → List Value → Prop) (h0 : J 0 z no ls [])
    (turn : ∀ C i v z1 y1 m1 ls1 s1 acc, i < n → val i v → FM.le z z1 → J i z1 m1 ls1 acc → S c z1 y1 C m1 ls1 s1 →
      W c A (assign target (compEnvC scope cl C env) v) (fun _ s2 => W c A (Tests ifs (compEnvC scope cl C env)) (fun ok s3 =>
        if ok = true then W c A (eval elt (compEnvC scope cl C env)) (fun x s4 => ∃ z2 m2 ls2, FM.le z1 z2 ∧ S c z2 y1 C m2 ls2 s4 ∧ J (i + 1) z2 m2 ls2 (acc ++ [x])) s3
        else ∃ z2 m2 ls2, FM.le z1 z2 ∧ S c z2 y1 C m2 ls2 s3 ∧ J (i + 1) z2 m2 ls2 acc) s2) s1)
    (done : ∀ D C k z1 m1 mC ls1 s1 oC acc, FM.le z z1 → J n z1 m1 ls1 acc → y C = none → Heap.Ns s1.heap C mC → S c z1 (y.put C oC) L m ((D, lstO acc k) :: ls1) s1 → RR (.ref D) C (.ok .next) s1) :
    CompGo c A env elt target iter ifs scope pos cl RR (.ref I) s := by
  unfold CompGo
  refine zNewL hS fun D s1 hS1 => ?_
  obtain ⟨oL, hL⟩ : ∃ oL, s1.heap.get? L = some oL := by obtain ⟨oL, _, _, hL, _⟩ := hS1.ns; exact ⟨oL, hL⟩
  have hLns := hS1.ns
  have yL := hS1.yL
  refine wpAny_newFunctionEnv hcell (by intro y hy; simp at hy) (fun h₁ hns₁ hsb₁ => ?_) hkind
  have old : ∀ b o, s1.heap.get? b = some o → h₁.get? b = some o := fun b o e => hsb₁.extBut b o (Nat.ne_of_lt (Heap.lt_size e)) (Heap.get?_push_of_some _ e)
  have hS2 : S c z (y.put L oL) s1.heap.objs.size no ((D, lstO [] 0) :: (I, o) :: ls) { s1 with heap := h₁, toks := s1.toks + ([] : List (Str × Value)).length } :=
    hS1.comp hL (fresh_none _) hns₁ old
  have loop : ∀ s₃ : Shared, S c z (y.put L oL) s1.heap.objs.size no ((D, lstO [] 0) :: (I, o) :: ls) s₃ → s₃.heap.Ns L m →
      codeAny (model PG c.w) A (.compLoop (.ListComp elt [⟨target, iter, ifs, 0⟩] scope pos) 0 (.ref I) (.ref D) (compEnvC scope cl s1.heap.objs.size env)) (RR (.ref D) s1.heap.objs.size) s₃ := by
    intro s₃ hS₃ hL₃
    refine compLoopW (fun k s' => ∃ i z1 m1 ls1 o1 acc q, i ≤ n ∧ k = n + 1 - i ∧ FM.le z z1 ∧ J i z1 m1 ls1 acc ∧ acc.length ≤ i ∧ St i o1 ∧ S c z1 (y.put L oL) s1.heap.objs.size m1 ((D, lstO acc q) :: (I, o1) :: ls1) s') ?_ (n + 1)
      ⟨0, z, no, ls, o, [], 0, Nat.zero_le _, rfl, FM.le.refl z, h0, Nat.le_refl _, st, hS₃⟩
    rintro k s' ⟨i, z1, m1, ls1, o1, acc, q, hi, rfl, hz, hJ, hlen, st1, hS4⟩
    have hS4' : S c z1 ((y.put L oL).put D (lstO acc q)) s1.heap.objs.size m1 ((I, o1) :: ls1) s' := hS4.hide
    have yD := hS4.yNone
    by_cases hlt : i < n
    · refine T.item A z1 _ _ m1 ls1 s' o1 i _ hh hz hS4' st1 hlt fun v o2 s2 hv st2 hS5 => ?_
      have yI := hS5.yNone
      refine T.go A z1 _ _ m1 ls1 s2 o2 (i + 1) target v _ hS5 st2 ?_
      refine W.mono (turn _ i v z1 _ m1 ls1 s2 acc hlt hv hz hJ hS5.hide) fun _ s3 h3 => W.mono h3 fun ok s4 h4 => ?_
      cases ok with
      | false =>
        simp only [Bool.false_eq_true, if_false] at h4 ⊢
        obtain ⟨z2, m2, ls2, hz2, hS6, hJ2⟩ := h4
        exact ⟨n + 1 - (i + 1), by omega, i + 1, z2, m2, ls2, o2, acc, q, hlt, rfl, hz.trans hz2, hJ2, Nat.le_succ_of_le hlen, st2, (hS6.unhide yI).unhide yD⟩
      | true =>
        simp only [if_true] at h4 ⊢
        refine W.mono h4 fun x s5 h5 => ?_
        obtain ⟨z2, m2, ls2, hz2, hS6, hJ2⟩ := h5
        refine zAppend ((hS6.unhide yI).unhide yD) (fun s6 hS7 => ?_) (by omega)
        exact ⟨n + 1 - (i + 1), by omega, i + 1, z2, m2, ls2, o2, _, _, hlt, rfl, hz.trans hz2, hJ2, by rw [List.length_append]; simp; omega, st2, hS7⟩
    · have hin : i = n := by omega
      subst hin
      refine T.done A z1 _ _ m1 ls1 s' o1 _ hh hz hS4' st1 fun s2 hS5 => ?_
      have hS6 := hS5.unhide yD
      have hns := hS6.ns
      have hLm : s2.heap.Ns L m := by
        obtain ⟨oL', es, ep, hL', hr⟩ := hL₃
        have e1 : s₃.heap.get? L = some oL := hS₃.fy _ _ FM.put_self
        rw [e1] at hL'; cases hL'
        exact ⟨oL, es, ep, hS6.fy _ _ FM.put_self, hr⟩
      obtain ⟨oC, yC, hC, hS7⟩ := hS6.swap hLm yL
      exact done D _ q z1 m1 m1 ls1 s2 oC acc hz hJ yC hns hS7
  refine codeAny_compStart_list (loop _ hS2 (hLns.keeps old)) ?_
  have hS2' := hS2.hide
  have := T.self A z _ _ no ls _ o 0 (fun it' s' => codeAny (model PG c.w) A (.compLoop (.ListComp elt [⟨target, iter, ifs, 0⟩] scope pos) 0 it' (.ref D) (compEnvC scope cl s1.heap.objs.size env)) (RR (.ref D) s1.heap.objs.size) s') hS2' st (loop _ hS2 (hLns.keeps old))
  exact W.any this
theorem zListComp {elt target iter : Expr} {ifs : List Expr} {scope : Scope} {pos : Pos} {cl : List (Str × Addr)} {Q : Value → Shared → Prop} (hclos : closureFor scope env = pure cl) (hkind : scope.kind = .function)
    (hnames : ∀ y ∈ scope.names, y.2 = .local → scope.names.lookup y.1 = some .local)
    (h : W c A (eval iter env) (fun xv s₁ => W c A (pyIter xv) (fun it s₂ => CompGo c A env elt target iter ifs scope pos cl (fun acc C => compPost (model PG c.w) A (fun _ _ => False) none Q acc C) it s₂) s₁) s)
    (hs : ∀ x, foldedSetIterable iter env x = pure x := by intro _; rfl) :
    W c A (eval (.ListComp elt [⟨target, iter, ifs, 0⟩] scope pos) env) Q s := by
  show wpAny _ A (eval _ env) _ _ s
  rw [eval_ListComp]
  exact wpAny_comprehension_free (use := none) rfl hs hclos hkind hnames h
theorem comp_ret {D C : Addr} {Q : Value → Shared → Prop} {oC : Obj} {mC : Str → Option Value} (hC : s.heap.Ns C mC) (hS : S c z (y.put C oC) L m ls s) (yC : y C = none) (h : ∀ s', S c z y L m ls s' → Q (.ref D) s') :
    compPost (model PG c.w) A (fun _ _ => False) none Q (.ref D) C (.ok .next) s := ⟨mC, hC, fun h' hs' => h _ (hS.letGo (t := s.toks) yC hs')⟩
theorem zAssignComp {elt target iter : Expr} {ifs : List Expr} {scope : Scope} {pos spos py : Pos} {cl : List (Str × Addr)} {v : Str} {rest : List Stmt} {Q : Flow → Shared → Prop} (hclos : closureFor scope env = pure cl) (hkind : scope.kind = .function)
    (hnames : ∀ y ∈ scope.names, y.2 = .local → scope.names.lookup y.1 = some .local)
    (hsw : swapsWith (.ListComp elt [⟨target, iter, ifs, 0⟩] scope pos) (some (.Name v py)) spos.line env = pure true)
    (h : W c A (eval iter env) (fun xv s₁ => W c A (pyIter xv) (fun it s₂ => CompGo c A env elt target iter ifs scope pos cl
      (fun acc C => compPost (model PG c.w) A (fun _ _ => False) (some (assign (.Name v py) env)) (fun _ s' => W c A (execs rest env) Q s') acc C) it s₂) s₁) s)
    (hs : ∀ x, foldedSetIterable iter env x = pure x := by intro _; rfl) :
    W c A (execs (.Assign [.Name v py] (.ListComp elt [⟨target, iter, ifs, 0⟩] scope pos) spos :: rest) env) Q s := by
  refine zSeq ?_
  show wpAny _ A (exec _ env) _ _ s
  rw [exec_Assign_Name_used _ _ _ _ hsw]
  refine wpAny_bind (wpAny_standAt (wpAny_bind ?_))
  show wpAny _ A (do let _ ← comprehension (.ListComp elt [⟨target, iter, ifs, 0⟩] scope pos) scope env _ (newList []) false (eval iter env) (some (assign (.Name v py) env))) _ _ s
  exact wpAny_bind (wpAny_mono (wpAny_comprehension_free (use := some (assign (.Name v py) env)) (Q := fun _ s' => W c A (execs rest env) Q s') rfl hs hclos hkind hnames h) (fun _ s' hq => wpAny_pure (wpAny_pure ⟨rfl, hq⟩)) fun _ _ e => e)
theorem comp_use {D C : Addr} {v : Str} {py : Pos} {Q : Value → Shared → Prop} {oC : Obj} {mC : Str → Option Value} (hC : s.heap.Ns C mC) (hS : S c z (y.put C oC) L m ls s) (yC : y C = none)
    (h : ∀ s', S c z y L (upd m v (.ref D)) ls s' → Q .none s') (hL : env.locals = L := by rfl) (hk : env.scope.kind = .function := by rfl) (hx : env.kindOf v = some .local := by rfl) :
    compPost (model PG c.w) A (fun _ _ => False) (some (assign (.Name v py) env)) Q (.ref D) C (.ok .next) s := by
  subst hL
  show wpAny _ A (assign (.Name v py) env (.ref D)) _ _ s
  have LC : env.locals ≠ C := fun e => by have := hS.yL; rw [e, FM.put_self] at this; cases this
  refine wpAny_assign_Name (wpAny_storeName_local hx hS.ns (fun h' hn hs => ?_) (by rw [hk]; rfl))
  exact ⟨mC, hC.sameBut hs (Ne.symm LC), fun h2 hs2 => h _ ((hS.bound hn hs (t := s.toks + 1)).letGo (t := s.toks + 1) yC hs2)⟩
end
end
section
open PySem PySem.W PySem.Calls PyProof.Rows PySem.SeqAt
set_option maxRecDepth 100000
set_option maxHeartbeats 8000000
set_option linter.unusedVariables false
section
variable {c : Cx} {A : Around} {z y : FM} {L a : Addr} {m : Str → Option Value} {ls : List (Addr × Obj)} {s : Shared} {env : Env}
theorem zIntI {i : Int} {t : Tok} {Q : Value → Shared → Prop} (h : Q (.int i t) s) : W c A (call (.type "int") [.int i t]) Q s := call_int_int h
theorem zIntB {b : Bool} {Q : Value → Shared → Prop} (hS : S c z y L m ls s) (h : ∀ t s', S c z y L m ls s' → Q (.int (if b then 1 else 0) t) s') : W c A (call (.type "int") [.bool b]) Q s := call_int_bool (h _ _ hS.toks)
theorem zMax {i j : Int} {t u : Tok} {Q : Value → Shared → Prop} (hS : S c z y L m ls s) (hh : A.handled = none) (h : ∀ t s', S c z y L m ls s' → Q (.int (if j > i then j else i) t) s') : W c A (call (.builtin "max") [.int i t, .int j u]) Q s := by
  refine max_two_ints hh fun h' tk hk => ?_
  have := h (if j > i then u else t) _ (hS.keepsTo (h' := h') (t := tk) hk)
  split <;> rename_i q
  · rw [if_pos q, if_pos q] at this; exact this
  · rw [if_neg q, if_neg q] at this; exact this
theorem zRc {x v : Value} {b : Bool} {Q : Value → Shared → Prop} (h : RcAt A s x v b) (hq : Q (.bool b) s) : W c A (compareOp .Eq x v) Q s := h _ _ _ _ hq
theorem zRcNe {x v : Value} {b : Bool} {Q : Value → Shared → Prop} (h : RcNeAt A s x v b) (hq : Q (.bool b) s) : W c A (compareOp .NotEq x v) Q s := h _ _ _ _ hq
theorem zNeNil {l b : Addr} {vs : List Value} {n n2 : Nat} {Q : Value → Shared → Prop} (hl : s.heap.get? l = some (lstO vs n)) (hb : s.heap.get? b = some (lstO [] n2)) (hu : A.units < cLine) (h : Q (.bool (!vs.isEmpty)) s) :
    W c A (compareOp .NotEq (.ref l) (.ref b)) Q s := by
  cases vs with
  | nil => exact zRcNe (RcNeAt.lists (e := fun _ => true) (isList_of hl) (isList_of hb) rfl hu (fun j h1 => absurd h1 (by simp))) (by simpa using h)
  | cons v r => exact zRcNe (RcNeAt.lists_lengths (isList_of hl) (isList_of hb) (by simp) hu) (by simpa using h)
theorem zIsNone {v : Value} {Q : Value → Shared → Prop} (hv : v ≠ .none) (h : Q (.bool false) s) : W c A (compareOp .Is v .none) Q s := is_none_ne hv h
theorem zIsNone1 {Q : Value → Shared → Prop} (h : Q (.bool true) s) : W c A (compareOp .Is .none .none) Q s := wpAny_is_self rfl h
theorem zRange {n : Nat} {t : Tok} {Q : Value → Shared → Prop} (hS : S c z y L m ls s) (h : ∀ r t1 t2 z' s', FM.le z z' → z' r = some { cls := .type "range", data := .fields #[.int 0 t1, .int (n : Int) t, .int 1 t2] } → S c z' y L m ls s' → Q (.ref r) s') :
    W c A (call (.type "range") [.int (n : Int) t]) Q s := by
  refine call_range_1 ?_
  have k := hS.allocZ { cls := .type "range", data := .fields #[.int 0 s.toks, .int (n : Int) t, .int 1 (s.toks + 1)] } (t := s.toks + 1 + 1)
  exact h _ _ _ _ _ k.1 FM.put_self k.2
theorem zIterRange {r : Addr} {n : Nat} {t t1 t2 : Tok} {Q : Value → Shared → Prop} (hS : S c z y L m ls s) (hr : z r = some { cls := .type "range", data := .fields #[.int 0 t1, .int (n : Int) t, .int 1 t2] }) (hn : n ≤ 1000000)
    (h : ∀ I o s', StRange 0 n 0 o → S c z y L m ((I, o) :: ls) s' → Q (.ref I) s') : W c A (pyIter (.ref r)) Q s := by
  refine wpAny_pyIter_range (hS.fz _ _ hr) (small_one (by decide) (by decide) (by omega) (by omega)) ?_
  have e : Builtin.Range.rangeSize 0 (n : Int) 1 = (n : Int) := by rw [rangeSize_one]; split <;> omega
  rw [e]
  exact h _ _ _ rfl (by have := hS.alloc { cls := .type "range_iterator", data := .fields #[rawInt 0, rawInt (n : Int), rawInt 1] } (t := s.toks); exact this)
theorem zIterList {l : Addr} {vs : List Value} {n : Nat} {Q : Value → Shared → Prop} (hS : S c z y L m ls s) (hl : z l = some (lstO vs n)) (h : ∀ I o s', StList l 0 o → S c z y L m ((I, o) :: ls) s' → Q (.ref I) s') :
    W c A (pyIter (.ref l)) Q s := wpAny_pyIter_list (isList_of (hS.fz _ _ hl)) (h _ _ _ ⟨rfl, rfl⟩ (hS.alloc _))
theorem zIterTup {l : Addr} {vs : List Value} {Q : Value → Shared → Prop} (hS : S c z y L m ls s) (hl : z l = some (tupO vs)) (h : ∀ I o s', StTup l 0 o → S c z y L m ((I, o) :: ls) s' → Q (.ref I) s') :
    W c A (pyIter (.ref l)) Q s := wpAny_pyIter_tuple (isTuple_of (hS.fz _ _ hl)) (h _ _ _ ⟨rfl, rfl⟩ (hS.alloc _))
theorem foldl_rep (v : Value) : ∀ (n : Nat) (acc : Array Value), (List.foldl (fun x1 x2 => x1 ++ x2) acc (List.replicate n #[v])) = acc ++ (List.replicate n v).toArray
  | 0, acc => by simp
  | n + 1, acc => by rw [List.replicate_succ, List.foldl_cons, foldl_rep v n]; apply Array.toList_inj.mp; simp [List.replicate_succ]
theorem zMulL {l : Addr} {v : Value} {k n : Nat} {u : Tok} {Q : Value → Shared → Prop} (hS : S c z y L m ls s) (hl : s.heap.get? l = some (lstO [v] k)) (hn : n ≤ 100000) (h : ∀ D s', S c z y L m ((D, lstO (List.replicate n v) 0) :: ls) s' → Q (.ref D) s') :
    W c A (binaryOp .Mult (.ref l) (.int (n : Int) u)) Q s := by
  refine mul_list hS.fr hS.news hl (by omega) (by omega) (by simp; omega) fun h' F' N' => ?_
  have e : (List.foldl (fun x1 x2 => x1 ++ x2) #[] (List.replicate (if ([v].toArray).isEmpty = true then 0 else ((n : Int)).toNat) [v].toArray)) = (List.replicate n v).toArray := by
    rw [if_neg (by simp)]; simp [foldl_rep]
  rw [e] at N'
  exact h _ _ (hS.viaNews1 (t := s.toks) F' N' fun q hq => Nat.ne_of_lt (Heap.lt_size (mem_allBut.mp (show (q.1, q.2) ∈ _ from hq)).2))
theorem intsAre_of {vs : List Value} : ∀ {kvs : List (Int × Value)}, vs.length = kvs.length → (∀ (j : Nat) (v : Value), vs[j]? = some v → ∃ k x, kvs[j]? = some (k, x) ∧ (IK c).is k v = true) → IntsAre vs (kvs.map (·.1)) := by
  induction vs with
  | nil => intro kvs hl _; cases kvs with | nil => exact .nil | cons _ _ => cases hl
  | cons v r ih =>
    intro kvs hl h
    cases kvs with
    | nil => cases hl
    | cons p q =>
      obtain ⟨k, x, hk, hv⟩ := h 0 v rfl
      obtain ⟨t, rfl⟩ := Value.isInt_shape (show Value.isInt k v = true from hv)
      simp at hk
      subst hk
      exact .cons k t (ih (by simpa using hl) fun j u hu => by simpa using h (j + 1) u (by simpa using hu))
theorem zSorted {p : Value} {kvs : List (Int × Value)} {Q : Value → Shared → Prop} (ok : c.Ok) (hS : S c z y L m ls s) (hh : A.handled = none) (hD : DictZ c z p kvs) (hn : kvs.length < 64) (hs : (kvs.map (·.1)).Pairwise (· ≤ ·))
    (h : ∀ D vs n s', IntsAre vs (kvs.map (·.1)) → S c z y L m ((D, lstO vs n) :: ls) s' → Q (.ref D) s') : W c A (call (.builtin "sorted") [p]) Q s := by
  obtain ⟨d, o, rfl, n1, hz, hD⟩ := hD
  have hm := dictOf_of (hS.fz _ _ hz) hD
  obtain ⟨ep, hat⟩ := hm.dictAt
  refine kdu_sorted (kdl_dict (knd := IK c) (kvs := kvs) (ep := ep) (by show (d == 1) = false; simpa using n1)) hh hS.fr hS.news hat (by rw [sizeLine_eq]; omega) fun B h' tk vs F' N' l1 hl hv => ?_
  have hi := intsAre_of (c := c) hl hv
  refine ksk_lsort (its := vs.toArray) (n := 0) (news' := fun o => (B, o) :: allBut s.heap L) F' N' (fun o => .head fun q hq => Nat.ne_of_lt (l1 q hq)) (by simp) hi (by rw [List.length_map]; exact hn) fun vs' ns' k h2 F2 N2 hi2 hlen hperm hpw _ => ?_
  have e : ns' = kvs.map (·.1) := lks_uniq hperm hpw hs
  subst e
  exact h B vs' k _ hi2 (hS.viaNews1 (t := tk) F2 N2 fun q hq => Nat.ne_of_lt (l1 q hq))
end
end
section
open PySem PySem.W PySem.Calls PyProof.Rows PySem.SeqAt
set_option maxRecDepth 100000
set_option maxHeartbeats 8000000
set_option linter.unusedVariables false
theorem bb_sorted : bootBuiltins (Str.ofString "sorted") = some (.builtin "sorted") := rfl
theorem bb_len : bootBuiltins (Str.ofString "len") = some (.builtin "len") := rfl
theorem bb_max : bootBuiltins (Str.ofString "max") = some (.builtin "max") := rfl
theorem bb_dict : bootBuiltins (Str.ofString "dict") = some (.type "dict") := rfl
theorem bb_list : bootBuiltins (Str.ofString "list") = some (.type "list") := rfl
theorem bb_tuple : bootBuiltins (Str.ofString "tuple") = some (.type "tuple") := rfl
theorem bb_range : bootBuiltins (Str.ofString "range") = some (.type "range") := rfl
theorem bb_int : bootBuiltins (Str.ofString "int") = some (.type "int") := rfl
theorem bb_enumerate : bootBuiltins (Str.ofString "enumerate") = some (.type "enumerate") := rfl
theorem zCallT {c : Cx} {A : Around} {s : Shared} {env : Env} {T : String} {pos : Pos} {e : Expr} {rest : List Expr} {Q : Value → Shared → Prop}
    (h : W c A (spliced (backTo pos (starEach (e :: rest) env))) (fun vs s₁ => W c A (call (.type T) vs) Q s₁) s)
    (he : starEach (e :: rest) env = (false, eval e env) :: starEach rest env := by rfl) (hplain : (backTo pos (starEach rest env)).any (·.1) = false := by rfl) :
    W c A (callWith pos (.type T) [] (backTo pos (starEach (e :: rest) env)) []) Q s := PyProof.Rows.callWith_type1 h he hplain
theorem FM.le.get {z z' : FM} {a : Addr} {o : Obj} (h : FM.le z z') (e : z a = some o) : z' a = some o := h _ _ e
theorem S.second {c : Cx} {z y : FM} {L : Addr} {m : Str → Option Value} {p q : Addr × Obj} {ls : List (Addr × Obj)} {s : Shared} (h : S c z y L m (p :: q :: ls) s) : S c z y L m (q :: p :: ls) s := h.perm (List.Perm.swap _ _ _)
theorem S.live {c : Cx} {z y : FM} {L a : Addr} {o : Obj} {m : Str → Option Value} {ls : List (Addr × Obj)} {s : Shared} (h : S c z y L m ls s) (hm : (a, o) ∈ ls) : s.heap.get? a = some o := (h.lv _ hm).1
theorem Room.cls {A : Around} {n : Nat} {C : Addr} {vals : List Value} {kw : List (Str × Value)} (R : Room A (n + 1)) : Room (A.under (.builtin "type.__call__" ⟨.ref C :: vals, kw⟩)) n := by
  have h1 := depth_under_kw A C vals kw
  have h2 : (A.under (.builtin "type.__call__" ⟨.ref C :: vals, kw⟩)).units ≤ A.units + 60 := by
    show A.units + (Code.builtin "type.__call__" ⟨.ref C :: vals, kw⟩).cUnits ≤ _
    have : (Code.builtin "type.__call__" ⟨.ref C :: vals, kw⟩).cUnits ≤ 60 := by have : (Code.builtin "type.__call__" ⟨.ref C :: vals, kw⟩).cUnits = (Code.builtin "type.__call__" ⟨[], []⟩).cUnits := rfl; rw [this]; decide +kernel
    omega
  exact ⟨R.1, by have := R.2.1; omega, by have := R.2.2; omega⟩
section
variable {c : Cx} {A : Around} {z y : FM} {L a : Addr} {m : Str → Option Value} {ls : List (Addr × Obj)} {s : Shared} {env : Env}
theorem zNew {C fI : Addr} {n : Nat} {args : List Value} {ls0 rest : List (Addr × Obj)} {Out : Addr → Addr → FM → List (Addr × Obj) → Prop} {Q : Value → Shared → Prop} (ok : c.Ok) (hS : S c z y L m (ls0 ++ rest) s)
    (hm : makesIn (hd.heap_1 c.w.params) C = true) (hi : findIn (hd.heap_1 c.w.params) (.ref C) "__init__" = some (some (.ref fI))) (hf : isFn (hd.heap_1 c.w.params) (.ref fI) = true) (R : Room A (n + 1))
    (F : ∀ x dx z1, FM.le z z1 → z1 x = some (instObj C dx) → Fn c n z1 fI (.ref x :: args) [] ((dx, emptyDict) :: ls0) (fun z' r ls' => r = .none ∧ Out x dx z' ls'))
    (h : ∀ x dx z' ls' s', FM.le z z' → z' x = some (instObj C dx) → Out x dx z' ls' → S c z' y L m (ls' ++ rest) s' → Q (.ref x) s') : W c A (call (.ref C) args) Q s := by
  refine wpAny_call (make_K hS.fr hS.news (hS.K ok) hm hi (beq_iff_eq.mp hf) fun x dx h' F' N' l1 l2 => ?_)
  have N1 : News {} L h' ((dx, emptyDict) :: allBut s.heap L) := fun p hp => N' p (.tail _ hp)
  have hS1 := hS.viaNews1 (t := s.toks) F' N1 fun q hq => Nat.ne_of_lt (l1 q hq)
  have X := N' _ (.head _)
  have hx : s.heap.get? x = none := by
    cases q : s.heap.get? x with
    | none => rfl
    | some o => exact absurd (Nat.lt_trans (l1 (x, o) (mem_allBut.mpr ⟨X.2.1, q⟩)) l2) (Nat.lt_irrefl _)
  obtain ⟨n1, n2, n3, n4⟩ := hS.none_of hx
  have hS2 : S c z y L m ((x, instObj C dx) :: (dx, emptyDict) :: (ls0 ++ rest)) { s with heap := h', toks := s.toks } :=
    hS1.adopt X.1 n1 n2 n3 fun q => (List.mem_cons.mp q).elim (fun e => absurd e.symm (Nat.ne_of_lt l2)) n4
  refine F x dx _ hS2.le_freeze FM.put_self _ y L m rest _ _ R.cls hS2.freeze fun r z' ls' s' hz ho hS' => ?_
  obtain ⟨rfl, ho⟩ := ho
  exact ⟨rfl, h x dx z' ls' s' (hS2.le_freeze.trans hz) (hz _ _ FM.put_self) ho hS'⟩
theorem zDictD {keys : List (Option Expr)} {values : List Expr} {pos : Pos} {Q : Value → Shared → Prop} (ok : c.Ok) (hS : S c z y L m ls s)
    (h : ∀ d o0 s1, d ≠ 1 → S c z y L m ((d, o0) :: ls) s1 → W c A (evalPairs (pairTrees keys values env pos)) (fun vs s2 => ∃ z2 m2 ls2, allIntKeys vs = true ∧ ((intKeyPairs vs).map (·.1)).Nodup ∧ S c z2 y L m2 ((d, o0) :: ls2) s2 ∧
      ∀ o' s', o'.IsDictOf (IK c) (intKeyPairs vs) → S c z2 y L m2 ((d, o') :: ls2) s' → Q (.ref d) s') s1)
    (hall : keys.all (·.isSome) = true := by rfl) (hl : keys.length = values.length := by rfl) (h0 : keys ≠ [] := by simp) (hlen : keys.length ≤ 15 := by decide) : W c A (eval (.Dict keys values pos) env) Q s := by
  refine wpAny_Dict_walk (knd := IK c) hall hl h0 hlen ?_
  have hb := hS.big ok
  have hS1 := hS.alloc { cls := .type "dict", data := .dict #[] } (t := s.toks)
  refine wpAny_mono (h _ _ _ (Nat.ne_of_gt (Nat.lt_trans (by decide) hb)) hS1) (fun vs s2 h2 => ?_) fun _ _ x => x
  obtain ⟨z2, m2, ls2, hk, hn, hS2, h2⟩ := h2
  have hd0 : s2.heap.DictOf (IK c) s.heap.objs.size [] := by
    refine dictOf_of (hS2.lv _ (.head _)).1 ?_
    obtain ⟨o, ho, hd⟩ := Heap.dictOf_iff.mp (Heap.DictOf.new (knd := IK c) s.heap)
    rw [Heap.get?_push_size _ rfl] at ho
    cases ho; exact hd
  refine display_done_int (prog := PG) (w := c.w) (P := fun h' => Q (.ref s.heap.objs.size) { s2 with heap := h', toks := s2.toks + vs.length }) hk hn hd0 fun h' hm hs => ?_
  obtain ⟨o', ho', hd'⟩ := Heap.dictOf_iff.mp hm
  exact h2 o' _ hd' (hS2.changed ho' hs.extBut)
theorem zForEnum {l : Addr} {vs : List Value} {n : Nat} {elts : List Expr} {x1 : Nat} {pos : Pos} {body : List Stmt} {Q : Flow → Shared → Prop} {E : Value → Shared → Prop}
    (hl : z l = some (lstO vs n)) (hh : A.handled = none) (hS : S c z y L m ls s)
    (J : Nat → FM → (Str → Option Value) → List (Addr × Obj) → Prop) (RV : Value → FM → (Str → Option Value) → List (Addr × Obj) → Prop) (h0 : J 0 z m ls)
    (turn : ∀ i v p tk z1 y1 m1 ls1 s1, i < vs.length → vs[i]? = some v → FM.le z z1 → z1 p = some (tupO [.int (i : Int) tk, v]) → J i z1 m1 ls1 → S c z1 y1 L m1 ls1 s1 →
      W c A (assign (.Tuple elts x1 pos) env (.ref p)) (fun _ s2 => W c A (execs body env) (TurnOk c z1 y1 L (J (i + 1)) RV) s2) s1)
    (hJ : ∀ i z1 z2 m1 ls1, FM.le z1 z2 → J i z1 m1 ls1 → J i z2 m1 ls1)
    (done : ∀ z1 m1 ls1 s1, FM.le z z1 → J vs.length z1 m1 ls1 → S c z1 y L m1 ls1 s1 → Q .next s1)
    (ret : ∀ r z1 m1 ls1 s1, FM.le z z1 → RV r z1 m1 ls1 → S c z1 y L m1 ls1 s1 → Q (.ret r) s1) :
    W c A (call (.type "enumerate") [.ref l]) (fun v s1 => W c A (pyIter v) (fun it s₂ => codeAny (model PG c.w) A (.forLoop (.Tuple elts x1 pos) it body [] env) (fun r s' => match r with | .ok f => Q f s' | .error e => E e s') s₂) s1) s := by
  refine call_enumerate_list (isList_of (hS.fz _ _ hl)) fun h' he hi hsz hk => ?_
  have f1 : s.heap.get? s.heap.objs.size = none := fresh_none _
  have f2 : s.heap.get? (s.heap.objs.size + 1) = none := by
    cases q : s.heap.get? (s.heap.objs.size + 1) with
    | none => rfl
    | some o => exact absurd (Heap.lt_size q) (Nat.not_lt.mpr (Nat.le_succ _))
  obtain ⟨a1, a2, a3, a4⟩ := hS.none_of f1
  obtain ⟨b1, b2, b3, b4⟩ := hS.none_of f2
  obtain ⟨oi0, hoi, hoc, hod⟩ := hi
  have hS1 := ((hS.keepsTo (h' := h') (t := s.toks) hk).adopt hoi a1 a2 a3 a4).adopt he b1 b2 b3 (fun q => (List.mem_cons.mp q).elim (fun e => by simp at e) b4)
  generalize s.heap.objs.size + 1 = e at hS1 he
  generalize s.heap.objs.size = it at hS1 he hoi
  refine wpAny_pyIter_enum he ?_
  refine codeAny_forLoop_any (fun k s' => ∃ i z1 m1 ls1 oi old, i ≤ vs.length ∧ k = vs.length + 1 - i ∧ FM.le z z1 ∧ J i z1 m1 ls1 ∧ StList l i oi ∧
    S c z1 y L m1 ((e, { cls := .type "enumerate", dict := none, data := .fields #[.none, .bool false, .ref it, rawInt (i : Int), .none, old], slots := #[] }) :: (it, oi) :: ls1) s') ?_ (vs.length + 1)
    ⟨0, z, m, ls, oi0, .none, Nat.zero_le _, rfl, FM.le.refl z, h0, ⟨hoc, hod⟩, hS1⟩
  rintro k s' ⟨i, z1, m1, ls1, oi, old, hi, rfl, hz, hJi, st, hS2⟩
  have Pe := hS2.lv _ (.head _)
  have Pi := hS2.lv _ (.tail _ (.head _))
  have hne : e ≠ it := fun q => (List.nodup_cons.mp hS2.nd).1 (by rw [q]; exact .head _)
  have hlz := hS2.fz _ _ (hz _ _ hl)
  by_cases hlt : i < vs.length
  · refine wpAny_pyNext_enum_item (x := vs[i]) Pe.1 ⟨oi, Pi.1, st.1, st.2⟩ (isList_of hlz) (by simp [hlt]) hne fun h1 heo hit1 ht1 hsz1 hk1 => ?_
    obtain ⟨oi1, hoi1, hc1, hd1⟩ := hit1
    have hS3 : S c z1 y L m1 ((e, { cls := .type "enumerate", dict := none, data := .fields #[rawInt s'.heap.objs.size, .bool false, .ref it, rawInt ((i : Int) + 1), .none, vs[i]], slots := #[] }) :: (it, oi1) :: ls1) { s' with heap := h1, toks := s'.toks + 1 } := by
      have na : ∀ {b : Addr} {x : Obj} {f : FM} {q : Addr}, f b = some x → f q = none → b ≠ q := fun e n q => by rw [q, n] at e; cases e
      exact {
        same := hS2.same, base := hS2.base
        fz := fun b x q => hk1 b x (na q Pe.2.2.1) (na q Pi.2.2.1) (hS2.fz b x q)
        fy := fun b x q => hk1 b x (na q Pe.2.2.2) (na q Pi.2.2.2) (hS2.fy b x q)
        zy := hS2.zy, ns := hS2.ns.at' fun o q => hk1 _ o (Ne.symm Pe.2.1) (Ne.symm Pi.2.1) q
        zL := hS2.zL, yL := hS2.yL
        lv := fun p hp => by
          rcases List.mem_cons.mp hp with rfl | hp
          · exact ⟨heo, Pe.2⟩
          · rcases List.mem_cons.mp hp with rfl | hp
            · exact ⟨hoi1, Pi.2⟩
            · have Q := hS2.lv p (.tail _ (.tail _ hp))
              have nd := List.nodup_cons.mp hS2.nd
              exact ⟨hk1 _ _ (fun q => nd.1 (List.mem_map.mpr ⟨p, .tail _ hp, q⟩)) (fun q => (List.nodup_cons.mp nd.2).1 (List.mem_map.mpr ⟨p, hp, q⟩)) Q.1, Q.2⟩
        nd := hS2.nd }
    obtain ⟨n1, n2, n3, n4⟩ := hS2.none_of (fresh_none s'.heap)
    have hS4 := hS3.adopt ht1 n1 n2 n3 n4
    have hS5 := hS4.freeze
    have hz5 := hS4.le_freeze
    refine wpAny_letOwnedTupleGo_enum heo fun h2 he2 hs2 => ?_
    have hS6 := hS5.changed (t := s'.toks + 1) he2 hs2.extBut
    have yi := hS6.yNone
    have hS7 := hS6.hide
    have yi2 := hS7.yNone
    refine W.any (W.mono (turn i vs[i] _ _ _ _ m1 ls1 _ hlt (by simp [hlt]) (hz.trans hz5) FM.put_self (hJ _ _ _ _ _ hz5 hJi) hS7.hide) fun _ s3 h3 => W.any (W.mono h3 fun fl s4 h4 => ?_))
    obtain ⟨z2, m2, ls2, hz2, hS8, h4⟩ := h4
    have hS9 := (hS8.unhide yi2).unhide yi
    have ei : ((i + 1 : Nat) : Int) = (i : Int) + 1 := by push_cast; rfl
    cases fl with
    | next => exact ⟨vs.length + 1 - (i + 1), by omega, i + 1, z2, m2, ls2, oi1, vs[i], hlt, rfl, (hz.trans hz5).trans hz2, h4, ⟨hc1, hd1⟩, by rw [ei]; exact hS9⟩
    | cont => exact ⟨vs.length + 1 - (i + 1), by omega, i + 1, z2, m2, ls2, oi1, vs[i], hlt, rfl, (hz.trans hz5).trans hz2, h4, ⟨hc1, hd1⟩, by rw [ei]; exact hS9⟩
    | brk => exact h4.elim
    | ret r => exact ret r z2 m2 ls2 s4 ((hz.trans hz5).trans hz2) h4 hS9.drop.drop
  · have hin : i = vs.length := by omega
    subst hin
    refine wpAny_pyNext_enum_end hh Pe.1 ⟨oi, Pi.1, st.1, st.2⟩ (isList_of hlz) (by simp) fun h1 he1 => wpAny_execs_nil ?_
    exact done z1 m1 ls1 _ hz hJi (S.dropExt (t := s'.toks) hS2.drop he1)
end
end
section
open PySem PySem.W PySem.Calls PyProof.Rows
set_option maxRecDepth 100000
set_option maxHeartbeats 4000000
set_option linter.unusedVariables false
local macro_rules | `(tactic| walk_at "lk") => `(tactic| first | with_reducible assumption | with_reducible exact upd_eq | (with_reducible refine upd_ne (by decide) ?_; walk_at "lk") | exact rfl)
local macro_rules | `(tactic| walk_at "zz") => `(tactic| first | with_reducible assumption | (refine' FM.le.get (by with_reducible assumption) ?zq; (case zq => walk_at "zz")) | fail "zz")
local macro_rules | `(tactic| walk_at "zm") => `(tactic| first | exact List.Mem.head _ | (refine' List.Mem.tail _ ?zq; (case zq => walk_at "zm")) | fail "zm")
local macro_rules | `(tactic| walk_at "zg") => `(tactic| first | with_reducible assumption | exact S.fz (by with_reducible assumption) _ _ (by walk_at "zz") | exact S.live (by with_reducible assumption) (by walk_at "zm") | fail "zg")
local macro_rules | `(tactic| walk_at "zn") => `(tactic| first
  | refine eNameL (by with_reducible assumption) (by walk_at "lk") ?_
  | refine eNameG (by with_reducible assumption) (by with_reducible assumption) (by k_is) ?_
  | refine eNameB (by with_reducible assumption) (by with_reducible assumption) (by k_is) (by with_reducible first | exact bb_len | exact bb_list | exact bb_tuple | exact bb_range | exact bb_sorted | exact bb_dict | exact bb_int | exact bb_max | exact bb_enumerate) ?_
  | (refine eNameC ?_; refine ⟨_, _, by walk_at "zg", by with_reducible assumption, ?_⟩)
  | (refine eNameF ?_; refine ⟨_, _, by walk_at "zg", by with_reducible assumption, ?_⟩)
  | fail "zn")
local macro_rules | `(tactic| walk_at "zi") => `(tactic| ((with_reducible rename S _ _ _ _ _ _ _ => hS0); (first | with_reducible refine zAnd hS0 ?_ | with_reducible refine zAdd hS0 ?_ | with_reducible refine zSub hS0 ?_ | with_reducible refine zXor hS0 ?_); clear hS0; intro _ _ _))
local macro_rules | `(tactic| walk_at "zc") => `(tactic| first
  | with_reducible refine zEqI ?_ | with_reducible refine zNeI ?_ | with_reducible refine zLtI ?_ | with_reducible refine zLeI ?_ | with_reducible refine zGtI ?_ | with_reducible refine zGeI ?_
  | with_reducible refine zEqS ?_ | with_reducible refine zNeS ?_)
local macro_rules | `(tactic| walk_at "ze") => `(tactic| first
  | with_reducible refine zReturn ?_
  | with_reducible refine zIf ?_
  | ((with_reducible show W _ _ (execs (Stmt.Assign [Expr.Name _ _] _ _ :: _) _) _ _); refine zAssign ?_)
  | ((with_reducible show W _ _ (execs (Stmt.Expr _ _ :: _) _) _ _); refine zExpr ?_)
  | ((with_reducible show W _ _ (execs (Stmt.Assign [Expr.Tuple _ _ _] _ _ :: _) _) _ _); refine zAssignT ?_)
  | ((with_reducible show W _ _ (execs (Stmt.For _ _ _ _ _ :: _) _) _ _); refine zFor ?_)
  | ((with_reducible show W _ _ (execs (Stmt.Assign [Expr.Attribute _ _ _] _ _ :: _) _) _ _); refine zAssignA ?_)
  | ((with_reducible show W _ _ (execs (Stmt.Assign [Expr.Subscript _ _ _] _ _ :: _) _) _ _); refine zAssignI ?_)
  | ((with_reducible show W _ _ (execs (Stmt.AugAssign (Expr.Attribute _ _ _) _ _ _ :: _) _) _ _); refine zAugA ?_)
  | ((with_reducible show W _ _ (execs (Stmt.AugAssign (Expr.Subscript _ _ _) _ _ _ :: _) _) _ _); refine zAugI ?_)
  | with_reducible refine zReturn0 ?_
  | with_reducible refine zApp ?_
  | with_reducible refine zApp0 ?_
  | with_reducible refine zNil ?_)
local macro_rules | `(tactic| walk_at "zv") => `(tactic| first
  | ((with_reducible show W _ _ (eval (Expr.Name _ _) _) _ _); walk_at "zn")
  | ((with_reducible show W _ _ (eval (Expr.Constant (Const.int _) _ _) _) _ _); (with_reducible rename S _ _ _ _ _ _ _ => hS0); with_reducible refine zInt hS0 ?_; clear hS0; intro _ _ _)
  | with_reducible refine Subscript_ ?_
  | with_reducible refine wpAny_BinOp ?_
  | ((with_reducible show W _ _ (eval (Expr.Compare _ [_] [_] _) _) _ _); refine wpAny_Compare1 ?_)
  | ((with_reducible show W _ _ (eval (Expr.Constant (Const.str _) _ _) _) _ _); (with_reducible rename S _ _ _ _ _ _ _ => hS0); with_reducible refine zStr hS0 ?_; clear hS0; intro _ _ _)
  | ((with_reducible show W _ _ (eval (Expr.Call (Expr.Attribute _ _ _) _ [] _) _) _ _); refine zMethCall ?_)
  | ((with_reducible show W _ _ (eval (Expr.Call _ _ [] _) _) _ _); refine zCall ?_)
  | with_reducible refine zTuple ?_
  | ((with_reducible show W _ _ (eval (Expr.Attribute _ _ _) _) _ _); refine zAttr ?_)
  | with_reducible refine zList ?_
  | with_reducible refine wpAny_UnaryOp ?_
  | ((with_reducible show W _ _ (eval (Expr.Compare _ (_ :: _ :: _) _ _) _) _ _); refine Compare_chain ?_)
  | with_reducible refine wpAny_And2 ?_
  | with_reducible refine wpAny_Or2 ?_
  | with_reducible refine wpAny_Constant_none ?_
  | with_reducible refine wpAny_Constant_bool ?_
  | ((with_reducible show W _ _ (eval (Expr.Slice (some (Expr.Constant (Const.int _) _ _)) none none _) _) _ _); (with_reducible rename S _ _ _ _ _ _ _ => hS0); with_reducible refine zSlice1 hS0 ?_; clear hS0; intro _ _ _ _))
local macro_rules | `(tactic| walk_at "zt") => `(tactic| first
  | ((with_reducible show W _ _ (isTrue (Expr.Compare _ [_] [_] _) _ _) _ _); refine wpAny_isTrue_Compare1 ?_)
  | ((with_reducible show W _ _ (isTrue (Expr.Compare _ (_ :: _ :: _) _ _) _ _) _ _); refine isTrue_chain ?_)
  | with_reducible refine wpAny_isTrue_Not ?_
  | with_reducible refine wpAny_isTrue_BoolOp ?_
  | refine wpAny_isTrue_value ?_)
local macro_rules | `(tactic| walk_at "zo") => `(tactic| first
  | ((with_reducible show W _ _ (binaryOp _ (Value.int _ _) (Value.int _ _)) _ _); walk_at "zi")
  | ((with_reducible show W _ _ (compareOp _ _ _) _ _); walk_at "zc")
  | ((with_reducible show W _ _ (subscriptTail _ _ (Value.ref _) (Value.int _ _)) _ _); refine zItemT (by with_reducible assumption) (by walk_at "zz") (by rfl) ?_)
  | ((with_reducible show W _ _ (storeName _ _ _) _ _); (with_reducible rename S _ _ _ _ _ _ _ => hS0); refine eStoreL hS0 ?_; clear hS0; intro _ _)
  | ((with_reducible show W _ _ (getAttr (Value.ref _) _ _) _ _); (with_reducible rename S _ _ _ _ _ _ _ => hS0); refine zGetA (by with_reducible assumption) hS0 (by walk_at "zz") (by walk_at "zg") (by with_reducible assumption) (by k_is) (by k_is) (by k_is) (by k_is) (by rfl) (by rfl) ?_; clear hS0; intro _ _ _)
  | ((with_reducible show W _ _ (getMethod (Value.ref _) (Str.ofString "append") _) _ _); refine zMethL PySem.F.slot_list_append PySem.F.type_list_append (by walk_at "zg") ?_)
  | ((with_reducible show W _ _ (getMethod (Value.ref _) (Str.ofString "pop") _) _ _); refine zMethL PySem.F.slot_list_pop PySem.F.type_list_pop (by walk_at "zg") ?_)
  | ((with_reducible show W _ _ (getMethod (Value.ref _) _ _) _ _); refine zGetM (by with_reducible assumption) (by with_reducible assumption) (by walk_at "zz") (by walk_at "zg") (by with_reducible assumption) (by k_is) (by k_is) (by k_is) (by rfl) ?_)
  | ((with_reducible show W _ _ (spliced (backTo _ (starEach [] _))) _ _); refine zItem0 ?_)
  | ((with_reducible show W _ _ (spliced (backTo _ (starEach (_ :: _) _))) _ _); refine zItem1 ?_)
  | with_reducible refine wpAny_truthy_bool ?_
  | ((with_reducible show W _ _ (Tests [] _) _ _); refine zTests0 ?_)
  | ((with_reducible show W _ _ (Tests [_] _) _ _); refine zTests1 ?_)
  | ((with_reducible show W _ _ (callWith _ (Value.ref _) _ (backTo _ (starEach (_ :: _) _)) []) _ _); refine zCallWith (by with_reducible assumption) (by k_is) ?_)
  | ((with_reducible show W _ _ (callWith _ (Value.ref _) _ (backTo _ (starEach [] _)) []) _ _); refine zCallWith0 (by with_reducible assumption) (by with_reducible assumption) (by k_is) ?_)
  | ((with_reducible show W _ _ (callWith _ (Value.builtin _) _ (backTo _ (starEach (_ :: _) _)) []) _ _); refine zCallB ?_)
  | ((with_reducible show W _ _ (callWith _ (Value.type _) [] (backTo _ (starEach (_ :: _) _)) []) _ _); refine zCallT ?_)
  | ((with_reducible show W _ _ (callWith _ (Value.builtin _) _ (backTo _ (starEach [] _)) []) _ _); refine zCallB0 ?_)
  | ((with_reducible show W _ _ (compareChain _ _ (_ :: _ :: _) _) _ _); refine chain_link ?_)
  | ((with_reducible show W _ _ (compareChain _ _ [_] _) _ _); refine chain_last ?_)
  | ((with_reducible show W _ _ (testChain _ _ (_ :: _ :: _) _) _ _); refine test_link ?_)
  | ((with_reducible show W _ _ (testChain _ _ [_] _) _ _); refine test_last ?_)
  | with_reducible refine wpAny_allTrue_And_cons ?_
  | with_reducible refine wpAny_allTrue_Or_cons ?_
  | with_reducible refine wpAny_allTrue_And_nil ?_
  | with_reducible refine wpAny_allTrue_Or_nil ?_
  | ((with_reducible show W _ _ (unaryOp _ (Value.int _ _)) _ _); (with_reducible rename S _ _ _ _ _ _ _ => hS0); with_reducible refine zNeg hS0 ?_; clear hS0; intro _ _ _)
  | with_reducible refine zAssignName ?_
  | with_reducible refine zBind ?_
  | ((with_reducible show W _ _ (assignInOrder _ _) _ _); first | refine zInOrder1 ?_ | refine zInOrder0 ?_)
  | ((with_reducible show W _ _ (assign (Expr.Tuple _ _ _) _ (Value.ref _)) _ _); (with_reducible rename S _ _ _ _ _ _ _ => hS0); refine zUnpackT hS0 (by walk_at "zz") (by with_reducible assumption) (by rfl) (by rfl) ?_; clear hS0; intro _ _))
local macro_rules | `(tactic| walk_at "z") => `(tactic| first
  | ((with_reducible show W _ _ (eval _ _) _ _); walk_at "zv")
  | ((with_reducible show W _ _ (execs _ _) _ _); walk_at "ze")
  | ((with_reducible show W _ _ (isTrue _ _ _) _ _); walk_at "zt")
  | ((with_reducible show W _ _ _ _ _); walk_at "zo")
  | ((with_reducible show if (_ : Bool) = true then _ else _); first | (with_reducible refine zIteT ?zh ?_; (case zh => decide)) | (with_reducible refine zIteF ?zh ?_; (case zh => decide)))
  | ((with_reducible show (∃ _ _ _ _ _, S _ _ _ _ _ _ _) ∧ _); refine ⟨⟨_, _, _, _, _, by with_reducible assumption⟩, ?_⟩)
  | fail "z")
inductive Wish where
  | mask (v m : Int)
  | rng (lo hi : Int)
def WishAt (z : FM) (v : Value) : Wish → Prop
  | .mask i j => ∃ p t t1 t2, v = .ref p ∧ z p = some (tupO [.str (Str.ofString "mask") t, .int i t1, .int j t2])
  | .rng i j => ∃ p t t1 t2, v = .ref p ∧ z p = some (tupO [.str (Str.ofString "range") t, .int i t1, .int j t2])
theorem WishAt.mono {z z' : FM} (h : FM.le z z') {v : Value} : ∀ {w : Wish}, WishAt z v w → WishAt z' v w
  | .mask _ _, ⟨p, t, t1, t2, e, q⟩ => ⟨p, t, t1, t2, e, h _ _ q⟩
  | .rng _ _, ⟨p, t, t1, t2, e, q⟩ => ⟨p, t, t1, t2, e, h _ _ q⟩
def RowAt (z : FM) (v : Value) (r : Int × Int) : Prop := ∃ p t1 t2, v = .ref p ∧ z p = some (tupO [.int r.1 t1, .int r.2 t2])
theorem RowAt.mono {z z' : FM} (h : FM.le z z') {v : Value} {r : Int × Int} : RowAt z v r → RowAt z' v r := fun ⟨p, t1, t2, e, q⟩ => ⟨p, t1, t2, e, h _ _ q⟩
def maskIn (a b : Int × Int) : Bool := Builtin.bitAnd a.2 b.2 == b.2 && Builtin.bitAnd a.1 b.2 == b.1
def maskMeet (a b : Int × Int) : Bool := Builtin.bitAnd (Builtin.bitAnd (Builtin.bitXor a.1 b.1) a.2) b.2 == 0
def Wish.holds (w : Wish) (n : Int) : Bool := if n = -1 then false else match w with
  | .mask v m => Builtin.bitAnd n m == v
  | .rng lo hi => decide (lo ≤ n) && decide (n ≤ hi)
section
variable {c : Cx} {z : FM}
theorem spec_is_mask_within (ok : c.Ok) {p q : Value} {r1 r2 : Int × Int} (hp : RowAt z p r1) (hq : RowAt z q r2) :
    Fn c 1 z 36 [p, q] [] [] (fun _ r ls => ls = [] ∧ r = .bool (maskIn r1 r2)) := by
  obtain ⟨p, t1, t2, rfl, hp⟩ := hp
  obtain ⟨q, t3, t4, rfl, hq⟩ := hq
  refine Fn.plain (binds := [(Str.ofString "one", .ref p), (Str.ofString "other", .ref q)]) ok (by k_is) (by k_is) (fun _ _ => BindsTo.of_eq rfl) (locs rfl) (by decide) rfl rfl rfl ?_
  intro A y L s R hS
  dsimp only [updsOf] at hS
  repeat' walk_at "z"
  refine zIte ?_ ?_ <;> intro hb
  · repeat' walk_at "z"
    exact ⟨z, [], _, FM.le.refl z, ⟨rfl, by simp [retOf, maskIn, hb]⟩, by assumption⟩
  · exact ⟨z, [], _, FM.le.refl z, ⟨rfl, by simp [retOf, maskIn, hb]⟩, by assumption⟩
theorem spec_do_masks_meet (ok : c.Ok) {p q : Value} {r1 r2 : Int × Int} (hp : RowAt z p r1) (hq : RowAt z q r2) :
    Fn c 1 z 43 [p, q] [] [] (fun _ r ls => ls = [] ∧ r = .bool (maskMeet r1 r2)) := by
  obtain ⟨p, t1, t2, rfl, hp⟩ := hp
  obtain ⟨q, t3, t4, rfl, hq⟩ := hq
  refine Fn.plain (binds := [(Str.ofString "one", .ref p), (Str.ofString "other", .ref q)]) ok (by k_is) (by k_is) (fun _ _ => BindsTo.of_eq rfl) (locs rfl) (by decide) rfl rfl rfl ?_
  intro A y L s R hS
  dsimp only [updsOf] at hS
  repeat' walk_at "z"
  exact ⟨z, [], _, FM.le.refl z, ⟨rfl, by simp [retOf, maskMeet]⟩, by assumption⟩
theorem spec_wish_holds (ok : c.Ok) {p : Value} {w : Wish} {n : Int} {t : Tok} (hp : WishAt z p w) :
    Fn c 1 z 123 [p, .int n t] [] [] (fun _ r ls => ls = [] ∧ r = .bool (w.holds n)) := by
  refine Fn.plain (binds := [(Str.ofString "wish", p), (Str.ofString "number", .int n t)]) ok (by k_is) (by k_is) (fun _ _ => BindsTo.of_eq rfl) (locs rfl) (by decide) rfl rfl rfl ?_
  intro A y L s R hS
  dsimp only [updsOf] at hS
  cases w with
  | mask v m =>
    obtain ⟨p, t0, t1, t2, rfl, hp⟩ := hp
    repeat' walk_at "z"
    refine zIte ?_ ?_ <;> intro hb
    · repeat' walk_at "z"
      exact ⟨z, [], _, FM.le.refl z, ⟨rfl, by simp at hb; simp [retOf, Wish.holds, hb]⟩, by assumption⟩
    · repeat' walk_at "z"
      exact ⟨z, [], _, FM.le.refl z, ⟨rfl, by simp at hb; simp [retOf, Wish.holds, hb]⟩, by assumption⟩
  | rng lo hi =>
    obtain ⟨p, t0, t1, t2, rfl, hp⟩ := hp
    repeat' walk_at "z"
    refine zIte ?_ ?_ <;> intro hb
    · repeat' walk_at "z"
      exact ⟨z, [], _, FM.le.refl z, ⟨rfl, by simp at hb; simp [retOf, Wish.holds, hb]⟩, by assumption⟩
    · repeat' walk_at "z"
      refine zIte ?_ ?_ <;> intro hb2
      · repeat' walk_at "z"
        exact ⟨z, [], _, FM.le.refl z, ⟨rfl, by simp at hb hb2; simp [retOf, Wish.holds, hb, hb2]⟩, by assumption⟩
      · exact ⟨z, [], _, FM.le.refl z, ⟨rfl, by simp at hb hb2; simp [retOf, Wish.holds, hb]; omega⟩, by assumption⟩
end
def gr (bits : Int) : Int := 1 * 2 ^ bits.toNat - 1
def Wish.ok (w : Wish) (bits : Int) : Prop := match w with
  | .mask v m => 0 ≤ m ∧ m ≤ gr bits ∧ Builtin.bitAnd v m = v
  | .rng lo hi => 0 ≤ lo ∧ lo ≤ hi ∧ hi ≤ gr bits
def Wish.ends (w : Wish) (bits : Int) : Int × Int := match w with
  | .mask v m => (v, v + (gr bits - m))
  | .rng lo hi => (lo, hi)
theorem shl_fits {n : Int} (h : n ≤ 48) : (Builtin.Int.intBits 1 : Int) + n ≤ 2 ^ 27 := by
  have : Builtin.Int.intBits 1 = 1 := by decide
  rw [this]; omega
section
variable {c : Cx} {z : FM}
theorem spec_wish_ends (ok : c.Ok) {p : Value} {w : Wish} {n : Int} {t : Tok} (hp : WishAt z p w) (h0 : 0 ≤ n) (h48 : n ≤ 48) :
    Fn c 1 z 50 [p, .int n t] [] [] (fun z' r ls => ls = [] ∧ RowAt z' r (w.ends n)) := by
  refine Fn.plain (binds := [(Str.ofString "wish", p), (Str.ofString "bits", .int n t)]) ok (by k_is) (by k_is) (fun _ _ => BindsTo.of_eq rfl) (locs rfl) (by decide) rfl rfl rfl ?_
  intro A y L s R hS
  dsimp only [updsOf] at hS
  cases w with
  | mask v m =>
    obtain ⟨p, t0, t1, t2, rfl, hp⟩ := hp
    repeat' walk_at "z"
    refine zShl (by assumption) h0 (shl_fits h48) ?_
    intro _ _ _
    repeat' walk_at "z"
    refine zNewT (by assumption) ?_
    intro r z' s' hz hr hS'
    exact ⟨z', [], _, hz, ⟨rfl, r, _, _, rfl, hr⟩, hS'⟩
  | rng lo hi =>
    obtain ⟨p, t0, t1, t2, rfl, hp⟩ := hp
    repeat' walk_at "z"
    refine zSubSlice (i := 1) hp (by assumption) (Nat.le_of_ble_eq_true rfl) (Nat.le_of_ble_eq_true rfl) ?_
    intro r z' s' hz hr hS'
    exact ⟨z', [], _, hz, ⟨rfl, r, _, _, rfl, hr⟩, hS'⟩
theorem spec_check_wish (ok : c.Ok) {p : Value} {w : Wish} {n : Int} {t : Tok} (hp : WishAt z p w) (h0 : 0 ≤ n) (h48 : n ≤ 48) (hw : w.ok n) :
    Fn c 1 z 130 [p, .int n t] [] [] (fun z' r ls => ls = [] ∧ r = .none) := by
  refine Fn.plain (binds := [(Str.ofString "wish", p), (Str.ofString "bits", .int n t)]) ok (by k_is) (by k_is) (fun _ _ => BindsTo.of_eq rfl) (locs rfl) (by decide) rfl rfl rfl ?_
  intro A y L s R hS
  dsimp only [updsOf] at hS
  repeat' walk_at "z"
  refine zShl (by assumption) h0 (shl_fits h48) ?_
  intro _ _ _
  repeat' walk_at "z"
  cases w with
  | mask v m =>
    obtain ⟨p, t0, t1, t2, rfl, hp⟩ := hp
    obtain ⟨a1, a2, a3⟩ := hw
    repeat' walk_at "z"
    refine zIteT (by simp [a1]) ?_
    repeat' walk_at "z"
    refine zIteF (by rw [decide_eq_true (show m ≤ 1 * 2 ^ n.toNat - 1 from a2)]; rfl) ?_
    repeat' walk_at "z"
    refine zIteF (by simp [a3]) ?_
    repeat' walk_at "z"
    exact ⟨z, [], _, FM.le.refl z, ⟨rfl, rfl⟩, by assumption⟩
  | rng lo hi =>
    obtain ⟨p, t0, t1, t2, rfl, hp⟩ := hp
    obtain ⟨a1, a2, a3⟩ := hw
    repeat' walk_at "z"
    refine zIteT (by simp [a1]) ?_
    repeat' walk_at "z"
    refine zIteT (by simp [a2]) ?_
    repeat' walk_at "z"
    refine zIteF (by rw [decide_eq_true (show hi ≤ 1 * 2 ^ n.toNat - 1 from a3)]; rfl) ?_
    repeat' walk_at "z"
    exact ⟨z, [], _, FM.le.refl z, ⟨rfl, rfl⟩, by assumption⟩
end
def shrink (low high : Int) : Nat → Int → Int
  | 0, size => size
  | k + 1, size => if low + size - 1 > high then shrink low high k (size.fdiv 2) else size
def firstSize (low bits : Int) : Int := if low > 0 then Builtin.bitAnd low (-low) else 1 * 2 ^ bits.toNat
def rmLoop (high bits : Int) : Nat → Int → List (Int × Int)
  | 0, _ => []
  | k + 1, low => if low ≤ high then (low, gr bits - (shrink low high 50 (firstSize low bits) - 1)) :: rmLoop high bits k (low + shrink low high 50 (firstSize low bits)) else []
def rangeMasks (lo hi bits : Int) : List (Int × Int) := rmLoop hi bits 9 lo
inductive Rows (z : FM) : List Value → List (Int × Int) → Prop
  | nil : Rows z [] []
  | cons {v r vs rs} : RowAt z v r → Rows z vs rs → Rows z (v :: vs) (r :: rs)
theorem Rows.mono {z z' : FM} (h : FM.le z z') : ∀ {vs : List Value} {rs : List (Int × Int)}, Rows z vs rs → Rows z' vs rs
  | _, _, .nil => .nil
  | _, _, .cons a b => .cons (a.mono h) (b.mono h)
theorem Rows.snoc {z : FM} {v : Value} {r : Int × Int} (h : RowAt z v r) : ∀ {vs : List Value} {rs : List (Int × Int)}, Rows z vs rs → Rows z (vs ++ [v]) (rs ++ [r])
  | _, _, .nil => .cons h .nil
  | _, _, .cons a b => .cons a (b.snoc h)
theorem Rows.length {z : FM} : ∀ {vs : List Value} {rs : List (Int × Int)}, Rows z vs rs → vs.length = rs.length
  | _, _, .nil => rfl
  | _, _, .cons _ b => by simp [b.length]
def MaskList (z : FM) (v : Value) (rs : List (Int × Int)) : Prop := ∃ l vs n, v = .ref l ∧ z l = some (lstO vs n) ∧ Rows z vs rs
theorem MaskList.mono {z z' : FM} (h : FM.le z z') {v : Value} {rs : List (Int × Int)} : MaskList z v rs → MaskList z' v rs := fun ⟨l, vs, n, e, q, r⟩ => ⟨l, vs, n, e, h _ _ q, r.mono h⟩
theorem firstSize_ok {low bits : Int} (h0 : 0 ≤ low) (h7 : low ≤ 7) (hb : 0 ≤ bits) (hb2 : bits ≤ 16) : 1 ≤ firstSize low bits ∧ firstSize low bits < 2 ^ 50 := by
  unfold firstSize
  have : low = 0 ∨ low = 1 ∨ low = 2 ∨ low = 3 ∨ low = 4 ∨ low = 5 ∨ low = 6 ∨ low = 7 := by omega
  rcases this with rfl | rfl | rfl | rfl | rfl | rfl | rfl | rfl
  · rw [if_neg (by decide)]
    have e : bits = ((bits.toNat : Nat) : Int) := by omega
    have h : bits.toNat ≤ 16 := by omega
    generalize bits.toNat = n at h ⊢
    have h1 : (2 : Int) ^ n ≤ 2 ^ 16 := by
      have := Nat.pow_le_pow_right (n := 2) (by decide) h
      exact_mod_cast this
    have h2 : (1 : Int) ≤ 2 ^ n := by
      have := Nat.one_le_two_pow (n := n)
      exact_mod_cast this
    constructor
    · omega
    · have : (2 : Int) ^ 16 < 2 ^ 50 := by decide
      omega
  all_goals (rw [if_pos (by decide)]; decide +kernel)
theorem shrink_ok {low high : Int} (hl : low ≤ high) : ∀ (k : Nat) (size : Int), 1 ≤ size → 1 ≤ shrink low high k size
  | 0, _, h => h
  | k + 1, size, h => by
    rw [shrink]
    split
    · refine shrink_ok hl k _ ?_
      have : size.fdiv 2 = size / 2 := by rw [Int.fdiv_eq_ediv_of_nonneg _ (by decide)]
      rw [this]; omega
    · exact h
abbrev sv (x : String) : Str := Str.ofString x
def JOut (lo hi n : Int) (l : Addr) (k : Nat) (z1 : FM) (m1 : Str → Option Value) (ls1 : List (Addr × Obj)) : Prop :=
  ∃ low vs n' rows tl th tb tw, m1 (Str.ofString "low") = some (.int low tl) ∧ m1 (Str.ofString "high") = some (.int hi th) ∧ m1 (Str.ofString "bits") = some (.int n tb) ∧
    m1 (Str.ofString "whole") = some (.int (1 * 2 ^ n.toNat - 1) tw) ∧ m1 (Str.ofString "found") = some (.ref l) ∧ ls1 = [(l, lstO vs n')] ∧ Rows z1 vs rows ∧
    rows ++ rmLoop hi n k low = rangeMasks lo hi n ∧ rows.length + k = 9 ∧ 0 ≤ low ∧ hi - low + 1 ≤ k
def JIn (hi n low : Int) (l : Addr) (vs : List Value) (n' : Nat) (goal : Int) (k : Nat) (z1 : FM) (m1 : Str → Option Value) (ls1 : List (Addr × Obj)) : Prop :=
  ∃ sz tl th tb tw ts, m1 (Str.ofString "low") = some (.int low tl) ∧ m1 (Str.ofString "high") = some (.int hi th) ∧ m1 (Str.ofString "bits") = some (.int n tb) ∧
    m1 (Str.ofString "whole") = some (.int (1 * 2 ^ n.toNat - 1) tw) ∧ m1 (Str.ofString "found") = some (.ref l) ∧ m1 (Str.ofString "size") = some (.int sz ts) ∧ ls1 = [(l, lstO vs n')] ∧
    shrink low hi k sz = goal ∧ 1 ≤ sz ∧ sz < 2 ^ k
theorem half {sz : Int} : sz.fdiv 2 = sz / 2 := Int.fdiv_eq_ediv_of_nonneg _ (by decide)
theorem pow_half {sz : Int} {k : Nat} (h : sz < 2 ^ (k + 1)) : sz / 2 < 2 ^ k := by
  rw [Int.pow_succ] at h; omega
section
variable {c : Cx} {z : FM}
theorem spec_range_masks (ok : c.Ok) {lo hi n : Int} {t1 t2 t3 : Tok} (h0 : 0 ≤ lo) (h7 : hi ≤ 7) (hb : 0 ≤ n) (hb2 : n ≤ 16) (hlo : lo ≤ hi + 1) :
    Fn c 1 z 22 [.int lo t1, .int hi t2, .int n t3] [] [] (fun z' r ls => ls = [] ∧ MaskList z' r (rangeMasks lo hi n)) := by
  refine Fn.plain (binds := [(Str.ofString "low", .int lo t1), (Str.ofString "high", .int hi t2), (Str.ofString "bits", .int n t3)]) ok (by k_is) (by k_is) (fun _ _ => BindsTo.of_eq rfl) (locs rfl) (by decide) rfl rfl rfl ?_
  intro A y L s R hS
  dsimp only [updsOf] at hS
  refine zAssignT2 (names := [Str.ofString "found", Str.ofString "whole"]) ?_
  repeat' walk_at "z"
  refine zNewL (by assumption) ?_
  intro l s1 hS1
  repeat' walk_at "z"
  refine zShl (by assumption) hb (shl_fits (by omega)) ?_
  intro _ _ _
  repeat' walk_at "z"
  refine zNewT (by assumption) ?_
  intro t z1 s2 hz1 ht hS2
  refine zUnpackItems hS2 ht R.1 rfl ?_
  intro s3 hS3
  clear hS2
  repeat' walk_at "z"
  refine zWhile (JOut lo hi n l) 9 (by assumption) ⟨lo, [], 0, [], t1, t2, t3, _, by walk_at "lk", by walk_at "lk", by walk_at "lk", by walk_at "lk", by walk_at "lk", rfl, .nil, rfl, rfl, h0, by omega⟩ ?_
  rintro k z2 m2 ls2 s4 hz2 ⟨low, vs, n', rows, tl, th, tb, tw, hl, hh, hbb, hw, hf, rfl, hrows, hrm, hlen, hlow, hk⟩ hS4
  repeat' walk_at "z"
  refine zIte ?_ ?_ <;> intro hb'
  · have hle : low ≤ hi := by simpa using hb'
    obtain ⟨k, rfl⟩ : ∃ k', k = k' + 1 := ⟨k - 1, by omega⟩
    have hfs := firstSize_ok (low := low) (bits := n) hlow (by omega) hb hb2
    repeat' walk_at "z"
    refine zCut (P := fun v s' => ∃ t, v = .int (firstSize low n) t ∧ S c z2 y L m2 [(l, lstO vs n')] s') ?_ ?_
    · refine wpAny_IfExp ?_
      repeat' walk_at "z"
      refine zIte ?_ ?_ <;> intro hb2'
      · repeat' walk_at "z"
        exact ⟨_, by rw [firstSize, if_pos (by simpa using hb2')], by assumption⟩
      · repeat' walk_at "z"
        refine zShl (by assumption) hb (shl_fits (by omega)) ?_
        intro t' _ _
        exact ⟨t', by rw [firstSize, if_neg (by simpa using hb2')], by assumption⟩
    rintro _ s5 ⟨ts, rfl, hS5⟩
    repeat' walk_at "z"
    refine zWhile (JIn hi n low l vs n' (shrink low hi 50 (firstSize low n))) 50 (by assumption) ⟨_, tl, th, tb, tw, ts, by walk_at "lk", by walk_at "lk", by walk_at "lk", by walk_at "lk", by walk_at "lk", by walk_at "lk", rfl, rfl, hfs⟩ ?_
    rintro k2 z3 m3 ls3 s6 hz3 ⟨sz, tl', th', tb', tw', ts', hl', hh', hbb', hw', hf', hs', rfl, hsh, hsz1, hsz2⟩ hS6
    repeat' walk_at "z"
    refine zIte ?_ ?_ <;> intro hc
    · have hc' : low + sz - 1 > hi := by simpa using hc
      obtain ⟨k2, rfl⟩ : ∃ k', k2 = k' + 1 := by
        cases k2 with
        | zero => exfalso; have : sz < 1 := hsz2; omega
        | succ k => exact ⟨k, rfl⟩
      repeat' walk_at "z"
      refine zDiv (by assumption) (by decide) (by decide) R.1 ?_
      intro _ _ _
      repeat' walk_at "z"
      refine ⟨k2, z3, _, _, Nat.lt_succ_self _, hz3, by assumption, _, tl', th', tb', tw', _, by walk_at "lk", by walk_at "lk", by walk_at "lk", by walk_at "lk", by walk_at "lk", by walk_at "lk", rfl, ?_, ?_, ?_⟩
      · rw [← hsh, shrink, if_pos hc']
      · rw [half]; omega
      · rw [half]; exact pow_half hsz2
    · have hc' : ¬ low + sz - 1 > hi := by simpa using hc
      have hsz : sz = shrink low hi 50 (firstSize low n) := by
        rw [← hsh]
        cases k2 with
        | zero => rfl
        | succ k => rw [shrink, if_neg hc']
      repeat' walk_at "z"
      refine zNewT (by assumption) ?_
      intro tp z4 s7 hz4 htp hS7
      repeat' walk_at "z"
      have hlen2 := hrows.length
      refine zAppend (by assumption) ?_ (by omega)
      intro s8 hS8
      repeat' walk_at "z"
      refine ⟨k, z4, _, _, Nat.lt_succ_self _, (hz2.trans hz3).trans hz4, by assumption, low + sz, _, _, rows ++ [(low, gr n - (sz - 1))], _, _, _, _, by walk_at "lk", by walk_at "lk", by walk_at "lk", by walk_at "lk", by walk_at "lk", rfl, ?_, ?_, ?_, ?_, ?_⟩
      · exact (hrows.mono (hz3.trans hz4)).snoc ⟨tp, _, _, rfl, htp⟩
      · rw [← hrm, rmLoop, if_pos hle, ← hsz, List.append_assoc]; rfl
      · rw [List.length_append, List.length_singleton]; omega
      · omega
      · omega
  · have hgt : ¬ low ≤ hi := by simpa using hb'
    repeat' walk_at "z"
    refine ⟨_, [], m2, (hz1.trans hz2).trans (S.le_freeze hS4), ⟨rfl, l, vs, n', rfl, FM.put_self, ?_⟩, S.freeze hS4⟩
    have : rangeMasks lo hi n = rows := by
      rw [← hrm]
      cases k with
      | zero => simp [rmLoop]
      | succ k => rw [rmLoop, if_neg hgt, List.append_nil]
    rw [this]
    exact hrows.mono (S.le_freeze hS4)
end
def Wish.small (w : Wish) : Prop := match w with
  | .mask _ _ => True
  | .rng lo hi => 0 ≤ lo ∧ lo ≤ hi ∧ hi ≤ 7
def Wish.masks (w : Wish) (bits : Int) : List (Int × Int) := match w with
  | .mask v m => [(v, m)]
  | .rng lo hi => rangeMasks lo hi bits
def within (a b : Wish) (bits : Int) : Bool := match b with
  | .rng lo hi => decide (lo ≤ (a.ends bits).1) && decide ((a.ends bits).2 ≤ hi)
  | .mask v m => (a.masks bits).all fun r => maskIn r (v, m)
def meet (a b : Wish) (bits : Int) : Bool := match a, b with
  | .rng l h, .rng l2 h2 => decide (l ≤ h2) && decide (l2 ≤ h)
  | a, b => (a.masks bits).any fun r => (b.masks bits).any fun q => maskMeet r q
theorem Rows.get {z : FM} : ∀ {vs : List Value} {rs : List (Int × Int)}, Rows z vs rs → ∀ {i : Nat} {v : Value}, vs[i]? = some v → ∃ r, rs[i]? = some r ∧ RowAt z v r
  | _, _, .nil, i, v, e => by simp at e
  | _, _, .cons a b, 0, v, e => by
    simp only [List.getElem?_cons_zero, Option.some.injEq] at e
    subst e; exact ⟨_, rfl, a⟩
  | _, _, .cons a b, i + 1, v, e => by
    simp only [List.getElem?_cons_succ] at e
    exact b.get e
theorem all_take {α : Type} {p : α → Bool} {l : List α} {i : Nat} {r : α} (h : (l.take i).all p = true) (e : l[i]? = some r) (hp : p r = true) : (l.take (i + 1)).all p = true := by
  rw [List.take_add_one, e, List.all_append, h]; simp [hp]
theorem any_take {α : Type} {p : α → Bool} {l : List α} {i : Nat} {r : α} (h : (l.take i).any p = false) (e : l[i]? = some r) (hp : p r = false) : (l.take (i + 1)).any p = false := by
  rw [List.take_add_one, e, List.any_append, h]; simp [hp]
theorem not_all {α : Type} {p : α → Bool} {l : List α} {i : Nat} {r : α} (e : l[i]? = some r) (hp : p r = false) : l.all p = false := by
  rw [List.all_eq_false]; exact ⟨r, List.mem_of_getElem? e, by simp [hp]⟩
theorem is_any {α : Type} {p : α → Bool} {l : List α} {i : Nat} {r : α} (e : l[i]? = some r) (hp : p r = true) : l.any p = true := by
  rw [List.any_eq_true]; exact ⟨r, List.mem_of_getElem? e, hp⟩
section
variable {c : Cx} {z : FM}
theorem spec_wish_masks (ok : c.Ok) {p : Value} {w : Wish} {n : Int} {t : Tok} (hp : WishAt z p w) (h0 : 0 ≤ n) (h16 : n ≤ 16) (hw : w.small) :
    Fn c 2 z 29 [p, .int n t] [] [] (fun z' r ls => ls = [] ∧ MaskList z' r (w.masks n)) := by
  refine Fn.plain (binds := [(Str.ofString "wish", p), (Str.ofString "bits", .int n t)]) ok (by k_is) (by k_is) (fun _ _ => BindsTo.of_eq rfl) (locs rfl) (by decide) rfl rfl rfl ?_
  intro A y L s R hS
  dsimp only [updsOf] at hS
  walk_at "z"
  refine wpAny_IfExp ?_
  cases w with
  | mask v m =>
    obtain ⟨p, t0, t1, t2, rfl, hp⟩ := hp
    repeat' walk_at "z"
    refine zSubSlice (i := 1) hp (by assumption) (Nat.le_of_ble_eq_true rfl) (Nat.le_of_ble_eq_true rfl) ?_
    intro r z' s' hz hr hS'
    repeat' walk_at "z"
    refine zNewL (by assumption) ?_
    intro l s2 hS2
    exact ⟨_, [], _, hz.trans hS2.le_freeze, ⟨rfl, l, [.ref r], 0, rfl, FM.put_self, .cons ⟨r, _, _, rfl, hS2.le_freeze _ _ hr⟩ .nil⟩, hS2.freeze⟩
  | rng lo hi =>
    obtain ⟨p, t0, t1, t2, rfl, hp⟩ := hp
    obtain ⟨a1, a2, a3⟩ := hw
    repeat' walk_at "z"
    refine zFn (spec_range_masks ok a1 a3 h0 h16 (by omega)) R (by assumption) ?_
    rintro r z1 ls1 s1 hz1 ⟨rfl, hm⟩ hS1
    exact ⟨z1, [], _, hz1, ⟨rfl, hm⟩, hS1⟩
theorem spec_is_wish_within (ok : c.Ok) {p q : Value} {w w2 : Wish} {n : Int} {t : Tok} (hp : WishAt z p w) (hq : WishAt z q w2) (h0 : 0 ≤ n) (h16 : n ≤ 16) (hw : w.small) (hw2 : w2.small) :
    Fn c 3 z 57 [p, q, .int n t] [] [] (fun z' r ls => ls = [] ∧ r = .bool (within w w2 n)) := by
  refine Fn.plain (binds := [(Str.ofString "one", p), (Str.ofString "other", q), (Str.ofString "bits", .int n t)]) ok (by k_is) (by k_is) (fun _ _ => BindsTo.of_eq rfl) (locs rfl) (by decide) rfl rfl rfl ?_
  intro A y L s R hS
  have hh := R.1
  dsimp only [updsOf] at hS
  cases w2 with
  | mask v m =>
    obtain ⟨q, t0, t1, t2, rfl, hq⟩ := hq
    repeat' walk_at "z"
    refine zFn (spec_wish_masks ok hp h0 h16 hw) R (by assumption) ?_
    rintro r z1 ls1 s1 hz1 ⟨rfl, l, vs, n', rfl, hl, hrows⟩ hS1
    refine zForList hl hh hS1 (fun i z2 m2 ls2 => m2 (Str.ofString "other") = some (.ref q) ∧ ls2 = [] ∧ ((w.masks n).take i).all (fun r => maskIn r (v, m)) = true)
      (fun r z2 m2 ls2 => r = .bool false ∧ ls2 = [] ∧ (w.masks n).all (fun r => maskIn r (v, m)) = false) ⟨by walk_at "lk", rfl, by simp⟩ ?_ ?_ ?_
    · rintro i x z2 y2 m2 ls2 s2 hi hx hz2 ⟨ho, rfl, hall⟩ hS2
      obtain ⟨r, hr, hxr⟩ := hrows.get hx
      have hxr := hxr.mono hz2
      have hq2 := (hz1.trans hz2) _ _ hq
      repeat' walk_at "z"
      refine zSubSlice (i := 1) hq2 (by assumption) (Nat.le_of_ble_eq_true rfl) (Nat.le_of_ble_eq_true rfl) ?_
      intro p3 z3 s3 hz3 hp3 hS3
      repeat' walk_at "z"
      refine zFn (spec_is_mask_within (r2 := (v, m)) ok (hxr.mono hz3) ⟨p3, t1, t2, rfl, hp3⟩) (R.le (by decide)) (by assumption) ?_
      rintro _ z4 ls4 s4 hz4 ⟨rfl, rfl⟩ hS4
      repeat' walk_at "z"
      refine zIte ?_ ?_ <;> intro hb
      · repeat' walk_at "z"
        exact ⟨z4, _, [], hz3.trans hz4, by assumption, rfl, rfl, not_all hr (by simpa using hb)⟩
      · repeat' walk_at "z"
        exact ⟨z4, _, [], hz3.trans hz4, by assumption, by walk_at "lk", rfl, all_take hall hr (by simpa using hb)⟩
    · rintro z2 m2 ls2 s2 hz2 ⟨ho, rfl, hall⟩ hS2
      repeat' walk_at "z"
      rw [hrows.length, List.take_length] at hall
      exact ⟨z2, [], _, hz1.trans hz2, ⟨rfl, by simp only [retOf, within]; rw [hall]⟩, by assumption⟩
    · rintro r z2 m2 ls2 s2 hz2 ⟨rfl, rfl, hall⟩ hS2
      exact ⟨z2, [], _, hz1.trans hz2, ⟨rfl, by simp only [retOf, within]; rw [hall]⟩, by assumption⟩
  | rng lo hi =>
    obtain ⟨q, t0, t1, t2, rfl, hq⟩ := hq
    repeat' walk_at "z"
    refine zFn (spec_wish_ends ok hp h0 (by omega)) (R.le (by decide)) (by assumption) ?_
    rintro r z1 ls1 s1 hz1 ⟨rfl, pe, t3, t4, rfl, he⟩ hS1
    have hq' := hz1 _ _ hq
    repeat' walk_at "z"
    refine zIte ?_ ?_ <;> intro hb
    · repeat' walk_at "z"
      exact ⟨z1, [], _, hz1, ⟨rfl, by simp only [retOf, within]; rw [hb]; rfl⟩, by assumption⟩
    · exact ⟨z1, [], _, hz1, ⟨rfl, by simp only [retOf, within]; rw [hb]; rfl⟩, by assumption⟩
end
section
variable {c : Cx} {z : FM}
theorem meet_loop {w w2 : Wish} {n : Int} (h : ∀ l k l2 k2, ¬ (w = .rng l k ∧ w2 = .rng l2 k2)) : meet w w2 n = (w.masks n).any fun r => (w2.masks n).any fun q => maskMeet r q := by
  cases w <;> cases w2 <;> first | rfl | exact absurd ⟨rfl, rfl⟩ (h _ _ _ _)
theorem spec_do_wishes_meet (ok : c.Ok) {p q : Value} {w w2 : Wish} {n : Int} {t : Tok} (hp : WishAt z p w) (hq : WishAt z q w2) (h0 : 0 ≤ n) (h16 : n ≤ 16) (hw : w.small) (hw2 : w2.small) :
    Fn c 3 z 64 [p, q, .int n t] [] [] (fun z' r ls => ls = [] ∧ r = .bool (meet w w2 n)) := by
  refine Fn.plain (binds := [(Str.ofString "one", p), (Str.ofString "other", q), (Str.ofString "bits", .int n t)]) ok (by k_is) (by k_is) (fun _ _ => BindsTo.of_eq rfl) (locs rfl) (by decide) rfl rfl rfl ?_
  intro A y L s R hS
  have hh := R.1
  dsimp only [updsOf] at hS
  refine zIf ?_
  refine zCut (P := fun b s' => S c z y L (upd (upd (upd no (Str.ofString "one") p) (Str.ofString "other") q) (Str.ofString "bits") (.int n t)) [] s' ∧ b = (match w, w2 with | .rng _ _, .rng _ _ => true | _, _ => false)) ?_ ?_
  · cases w with
    | mask v m =>
      obtain ⟨p, t0, t1, t2, rfl, hp⟩ := hp
      repeat' walk_at "z"
      exact ⟨by assumption, rfl⟩
    | rng lo hi =>
      obtain ⟨p, t0, t1, t2, rfl, hp⟩ := hp
      cases w2 with
      | mask v m =>
        obtain ⟨q, t3, t4, t5, rfl, hq⟩ := hq
        repeat' walk_at "z"
        exact ⟨by assumption, rfl⟩
      | rng l2 h2 =>
        obtain ⟨q, t3, t4, t5, rfl, hq⟩ := hq
        repeat' walk_at "z"
        exact ⟨by assumption, rfl⟩
  rintro b s1 ⟨hS1, rfl⟩
  refine zIte ?_ ?_ <;> intro hb
  · -- two ranges
    cases w with
    | mask v m => cases hb
    | rng lo hi =>
      cases w2 with
      | mask v m => cases hb
      | rng l2 h2 =>
        obtain ⟨p, t0, t1, t2, rfl, hp⟩ := hp
        obtain ⟨q, t3, t4, t5, rfl, hq⟩ := hq
        repeat' walk_at "z"
        refine zIte ?_ ?_ <;> intro hb2
        · repeat' walk_at "z"
          exact ⟨z, [], _, FM.le.refl z, ⟨rfl, by simp only [retOf, meet]; rw [hb2]; rfl⟩, by assumption⟩
        · exact ⟨z, [], _, FM.le.refl z, ⟨rfl, by simp only [retOf, meet]; rw [hb2]; rfl⟩, by assumption⟩
  · have hm : meet w w2 n = (w.masks n).any fun r => (w2.masks n).any fun q => maskMeet r q := meet_loop fun l k l2 k2 ⟨e1, e2⟩ => by subst e1 e2; cases hb
    rw [hm]
    repeat' walk_at "z"
    refine zFn (spec_wish_masks ok hp h0 h16 hw) R (by assumption) ?_
    rintro r z1 ls1 s1 hz1 ⟨rfl, l, vs, n', rfl, hl, hrows⟩ hS2
    refine zForList hl hh hS2 (fun i z2 m2 ls2 => m2 (Str.ofString "other") = some q ∧ m2 (Str.ofString "bits") = some (.int n t) ∧ ls2 = [] ∧ ((w.masks n).take i).any (fun r => (w2.masks n).any fun q => maskMeet r q) = false)
      (fun r z2 m2 ls2 => r = .bool true ∧ ls2 = [] ∧ (w.masks n).any (fun r => (w2.masks n).any fun q => maskMeet r q) = true) ⟨by walk_at "lk", by walk_at "lk", rfl, by simp⟩ ?_ ?_ ?_
    · rintro i x z2 y2 m2 ls2 s2 hi hx hz2 ⟨ho, hbt, rfl, hany⟩ hS3
      obtain ⟨r, hr, hxr⟩ := hrows.get hx
      have hxr := hxr.mono hz2
      repeat' walk_at "z"
      refine zFn (spec_wish_masks ok (hq.mono (hz1.trans hz2)) h0 h16 hw2) R (by assumption) ?_
      rintro _ z3 ls3 s3 hz3 ⟨rfl, l2, vs2, n2', rfl, hl2, hrows2⟩ hS4
      refine zForList hl2 hh hS4 (fun j z4 m4 ls4 => m4 (Str.ofString "other") = some q ∧ m4 (Str.ofString "bits") = some (.int n t) ∧ m4 (Str.ofString "row") = some x ∧ ls4 = [] ∧ ((w2.masks n).take j).any (fun q => maskMeet r q) = false)
        (fun rr z4 m4 ls4 => rr = .bool true ∧ ls4 = [] ∧ (w2.masks n).any (fun q => maskMeet r q) = true) ⟨by walk_at "lk", by walk_at "lk", by walk_at "lk", rfl, by simp⟩ ?_ ?_ ?_
      · rintro j x2 z4 y4 m4 ls4 s4 hj hx2 hz4 ⟨ho4, hbt4, hrow4, rfl, hany4⟩ hS5
        obtain ⟨r2, hr2, hxr2⟩ := hrows2.get hx2
        repeat' walk_at "z"
        refine zFn (spec_do_masks_meet ok (hxr.mono (hz3.trans hz4)) (hxr2.mono hz4)) (R.le (by decide)) (by assumption) ?_
        rintro _ z5 ls5 s5 hz5 ⟨rfl, rfl⟩ hS6
        repeat' walk_at "z"
        refine zIte ?_ ?_ <;> intro hb5
        · repeat' walk_at "z"
          exact ⟨z5, _, [], hz5, by assumption, rfl, rfl, is_any hr2 hb5⟩
        · repeat' walk_at "z"
          exact ⟨z5, _, [], hz5, by assumption, by walk_at "lk", by walk_at "lk", by walk_at "lk", rfl, any_take hany4 hr2 hb5⟩
      · rintro z4 m4 ls4 s4 hz4 ⟨ho4, hbt4, hrow4, rfl, hany4⟩ hS5
        rw [hrows2.length, List.take_length] at hany4
        repeat' walk_at "z"
        exact ⟨z4, _, [], hz3.trans hz4, by assumption, by walk_at "lk", by walk_at "lk", rfl, any_take hany hr hany4⟩
      · rintro rr z4 m4 ls4 s4 hz4 ⟨rfl, rfl, hany4⟩ hS5
        exact ⟨z4, m4, [], hz3.trans hz4, by assumption, rfl, rfl, is_any hr hany4⟩
    · rintro z2 m2 ls2 s2 hz2 ⟨ho, hbt, rfl, hany⟩ hS3
      rw [hrows.length, List.take_length] at hany
      repeat' walk_at "z"
      exact ⟨z2, [], _, hz1.trans hz2, ⟨rfl, by simp only [retOf]; rw [hany]⟩, by assumption⟩
    · rintro r z2 m2 ls2 s2 hz2 ⟨rfl, rfl, hany⟩ hS3
      exact ⟨z2, [], _, hz1.trans hz2, ⟨rfl, by simp only [retOf]; rw [hany]⟩, by assumption⟩
end
def bitsOf (k : Int) : Int := if k = 3 then 12 else if k = 4 then 3 else if k = 7 then 8 else 16
def Place (k : Int) : Prop := k = 3 ∨ k = 4 ∨ k = 7 ∨ k = 8
def Good (p : Int × Wish) : Prop := Place p.1 ∧ p.2.ok (bitsOf p.1) ∧ p.2.small
theorem Good.bits {k : Int} : 0 ≤ bitsOf k ∧ bitsOf k ≤ 16 := by unfold bitsOf; split <;> (try split) <;> (try split) <;> omega
inductive WTab (z : FM) : List (Int × Value) → List (Int × Wish) → Prop
  | nil : WTab z [] []
  | cons {k v w kvs ws} : WishAt z v w → WTab z kvs ws → WTab z ((k, v) :: kvs) ((k, w) :: ws)
theorem WTab.mono {z z' : FM} (h : FM.le z z') {kvs : List (Int × Value)} {ws : List (Int × Wish)} (t : WTab z kvs ws) : WTab z' kvs ws := by
  induction t with
  | nil => exact .nil
  | cons a _ ih => exact .cons (a.mono h) ih
theorem WTab.keys {z : FM} {kvs : List (Int × Value)} {ws : List (Int × Wish)} (t : WTab z kvs ws) : kvs.map (·.1) = ws.map (·.1) := by
  induction t with
  | nil => rfl
  | cons a _ ih => simp [ih]
theorem WTab.length {z : FM} {kvs : List (Int × Value)} {ws : List (Int × Wish)} (t : WTab z kvs ws) : kvs.length = ws.length := by
  have := congrArg List.length t.keys; simpa using this
theorem WTab.at {z : FM} {kvs : List (Int × Value)} {ws : List (Int × Wish)} (t : WTab z kvs ws) : ∀ {i : Nat} {k : Int} {w : Wish}, ws[i]? = some (k, w) → ∃ v, kvs[i]? = some (k, v) ∧ WishAt z v w := by
  induction t with
  | nil => intro i k w e; simp at e
  | cons a _ ih =>
    intro i k w e
    cases i with
    | zero => simp at e; obtain ⟨rfl, rfl⟩ := e; exact ⟨_, rfl, a⟩
    | succ i => simp at e; exact ih e
def WDict (c : Cx) (z : FM) (p : Value) (ws : List (Int × Wish)) : Prop := ∃ kvs, DictZ c z p kvs ∧ WTab z kvs ws
theorem WDict.mono {c : Cx} {z z' : FM} (h : FM.le z z') {p : Value} {ws : List (Int × Wish)} : WDict c z p ws → WDict c z' p ws := fun ⟨kvs, a, b⟩ => ⟨kvs, a.mono h, b.mono h⟩
def ActAt (z : FM) (v : Value) : Prop := (∃ t, v = .str (Str.ofString "let") t) ∨ (∃ t, v = .str (Str.ofString "drop") t) ∨ ∃ p t1 t2, v = .ref p ∧ z p = some (tupO [.str (Str.ofString "mark") t1, .int 5 t2])
theorem ActAt.mono {z z' : FM} (h : FM.le z z') {v : Value} : ActAt z v → ActAt z' v
  | .inl a => .inl a
  | .inr (.inl a) => .inr (.inl a)
  | .inr (.inr ⟨p, t1, t2, e, q⟩) => .inr (.inr ⟨p, t1, t2, e, h _ _ q⟩)
structure RuleG where
  act : Value
  ws : List (Int × Wish)
def RuleG.Ok (r : RuleG) : Prop := (r.ws.map (·.1)).Pairwise (· < ·) ∧ (∀ p ∈ r.ws, Good p) ∧ r.ws.length ≤ 4
def RuleAt (c : Cx) (z : FM) (v : Value) (r : RuleG) : Prop := ∃ x dx od wd, v = .ref x ∧ z x = some (instObj 166 dx) ∧ z dx = some od ∧ FieldsO od [(Str.ofString "action", r.act), (Str.ofString "wishes", wd)] ∧ WDict c z wd r.ws ∧ ActAt z r.act
theorem RuleAt.mono {c : Cx} {z z' : FM} (h : FM.le z z') {v : Value} {r : RuleG} : RuleAt c z v r → RuleAt c z' v r := fun ⟨x, dx, od, wd, a1, a2, a3, a4, a5, a6⟩ => ⟨x, dx, od, wd, a1, h _ _ a2, h _ _ a3, a4, a5.mono h, a6.mono h⟩
theorem FieldsO.cast {o : Obj} {fs fs' : List (Str × Value)} (h : FieldsO o fs) (e : fs = fs') : FieldsO o fs' := e ▸ h
theorem ints_get {vs : List Value} {ns : List Int} (h : IntsAre vs ns) : ∀ {i : Nat} {v : Value}, vs[i]? = some v → ∃ k t, ns[i]? = some k ∧ v = .int k t := by
  induction h with
  | nil => intro i v e; simp at e
  | cons n t _ ih =>
    intro i v e
    cases i with
    | zero => simp at e; exact ⟨n, t, rfl, e.symm⟩
    | succ i => simp at e; exact ih e
theorem le_of_lt_pw {l : List Int} (h : l.Pairwise (· < ·)) : l.Pairwise (· ≤ ·) := h.imp fun h => Int.le_of_lt h
theorem nodup_of_lt {l : List Int} (h : l.Pairwise (· < ·)) : l.Nodup := by
  rw [List.nodup_iff_pairwise_ne]; exact h.imp fun h e => by omega
theorem ws_at {ws : List (Int × Wish)} {i : Nat} {k : Int} (e : (ws.map (·.1))[i]? = some k) : ∃ w, ws[i]? = some (k, w) := by
  rw [List.getElem?_map] at e
  obtain ⟨⟨k', w⟩, h, rfl⟩ := Option.map_eq_some_iff.mp e
  exact ⟨w, h⟩
section
variable {c : Cx} {z : FM}
theorem zFieldBits {A : Around} {y : FM} {L : Addr} {m : Str → Option Value} {ls : List (Addr × Obj)} {s : Shared} {value slice : Expr} {k : Int} {u : Tok} {Q : Value → Shared → Prop} (ok : c.Ok) (hS : S c z y L m ls s) (hk : Place k)
    (h : ∀ t, Q (.int (bitsOf k) t) s) (hs : subscripted slice false (.ref 15) (.int k u) = operate [.ref 15, .int k u] (getItem (.ref 15) (.int k u)) := by with_unfolding_all rfl) :
    W c A (subscriptTail value slice (.ref 15) (.int k u)) Q s := by
  have ht : z 15 = some (tupO [.int 48 187, .int 48 188, .int 16 189, .int 12 190, .int 3 191, .int 32 192, .int 32 193, .int 8 194, .int 16 195, .int 16 196]) := hS.Kz ok (by k_is)
  rcases hk with rfl | rfl | rfl | rfl
  · exact zItemT hS ht rfl (h 190) (by decide) (by decide) hs
  · exact zItemT hS ht rfl (h 191) (by decide) (by decide) hs
  · exact zItemT hS ht rfl (h 194) (by decide) (by decide) hs
  · exact zItemT hS ht rfl (h 195) (by decide) (by decide) hs
theorem zNotInLD {A : Around} {y : FM} {L : Addr} {m : Str → Option Value} {ls : List (Addr × Obj)} {s : Shared} {x : Str} {t t1 t2 : Tok} {tt : Addr} {Q : Value → Shared → Prop} (hx : x = Str.ofString "let" ∨ x = Str.ofString "drop") (hS : S c z y L m ls s)
    (htt : z tt = some (tupO [.str (Str.ofString "let") t1, .str (Str.ofString "drop") t2])) (h : Q (.bool false) s) : W c A (compareOp .NotIn (.str x t) (.ref tt)) Q s := by
  refine SeqAt.notIn_tupleAt (fun v => match v with | .str a _ => a == x | _ => false) (isTuple_of (hS.fz _ _ htt)) (fun v hv => ?_) ?_
  · have : v = .str (Str.ofString "let") t1 ∨ v = .str (Str.ofString "drop") t2 := by simpa using hv
    rcases this with rfl | rfl <;> exact SeqAt.EqAt.str_str _ _ _ _
  · have e : (#[Value.str (Str.ofString "let") t1, Value.str (Str.ofString "drop") t2].any fun v => match v with | .str a _ => a == x | _ => false) = true := by rcases hx with rfl | rfl <;> simp
    rw [e]; exact h
theorem zNotInLDT {A : Around} {y : FM} {L : Addr} {m : Str → Option Value} {ls : List (Addr × Obj)} {s : Shared} {q : Addr} {vs : List Value} {t1 t2 : Tok} {tt : Addr} {Q : Value → Shared → Prop} (hq : z q = some (tupO vs)) (hS : S c z y L m ls s)
    (htt : z tt = some (tupO [.str (Str.ofString "let") t1, .str (Str.ofString "drop") t2])) (hu : A.units + 1 < cLine) (h : Q (.bool true) s) : W c A (compareOp .NotIn (.ref q) (.ref tt)) Q s := by
  refine SeqAt.notIn_tupleAt (fun v => false) (isTuple_of (hS.fz _ _ htt)) (fun v hv => ?_) ?_
  · have : v = .str (Str.ofString "let") t1 ∨ v = .str (Str.ofString "drop") t2 := by simpa using hv
    rcases this with rfl | rfl <;> exact SeqAt.EqAt.str_tuple _ _ (isTuple_of (hS.fz _ _ hq)) hu
  · have e : (#[Value.str (Str.ofString "let") t1, Value.str (Str.ofString "drop") t2].any fun v => false) = false := by simp
    rw [e]; exact h
theorem spec_init_rule (ok : c.Ok) {x dx : Addr} {act p : Value} {ws : List (Int × Wish)} (hx : z x = some (instObj 166 dx)) (hp : WDict c z p ws) (ha : ActAt z act) (hr : RuleG.Ok ⟨act, ws⟩) :
    Fn c 2 z 144 [.ref x, act, p] [] [(dx, emptyDict)] (fun z' r ls => r = .none ∧ ls = [] ∧ RuleAt c z' (.ref x) ⟨act, ws⟩) := by
  obtain ⟨h1, h2, h3⟩ := hr
  refine Fn.plain (binds := [(Str.ofString "self", .ref x), (Str.ofString "action", act), (Str.ofString "wishes", p)]) ok (by k_is) (by k_is) (fun _ _ => BindsTo.of_eq rfl) (locs rfl) (by decide) rfl rfl rfl ?_
  intro A y L s R hS
  have hh := R.1
  dsimp only [updsOf] at hS
  obtain ⟨kvs, hd, ht⟩ := hp
  have hk := ht.keys
  repeat' walk_at "z"
  refine zSorted ok (by assumption) hh hd (by rw [ht.length]; exact Nat.lt_of_le_of_lt h3 (by decide)) (by rw [hk]; exact le_of_lt_pw h1) ?_
  intro D vs n' s1 hvs hS1
  have hz1 := hS1.le_freeze
  refine zForList (z := z.put D (lstO vs n')) FM.put_self hh hS1.freeze (fun i z2 m2 ls2 => m2 (Str.ofString "self") = some (.ref x) ∧ m2 (Str.ofString "action") = some act ∧ m2 (Str.ofString "wishes") = some p ∧ ls2 = [(dx, emptyDict)])
    (fun _ _ _ _ => False) ⟨by walk_at "lk", by walk_at "lk", by walk_at "lk", rfl⟩ ?_ ?_ ?_
  · rintro i v z2 y2 m2 ls2 s2 hi hv hz2 ⟨e1, e2, e3, rfl⟩ hS2
    obtain ⟨k, t, hki, rfl⟩ := ints_get hvs hv
    rw [hk] at hki
    obtain ⟨w, hw⟩ := ws_at hki
    obtain ⟨wv, hwv, hwa⟩ := ht.at hw
    have hg := h2 _ (List.mem_of_getElem? hw)
    repeat' walk_at "z"
    refine zDictGet (by assumption) ((hd.mono hz1).mono hz2) (valueAt_of_get (by rw [hk]; exact nodup_of_lt h1) hwv) ?_
    intro s3 hS3
    repeat' walk_at "z"
    refine zFieldBits ok (by assumption) hg.1 ?_
    intro t5
    repeat' walk_at "z"
    have hgb := Good.bits (k := k)
    refine zFn (spec_check_wish ok (hwa.mono (hz1.trans hz2)) hgb.1 (by omega) hg.2.1) (R.le (by decide)) (by assumption) ?_
    rintro r z3 ls3 s4 hz3 ⟨rfl, rfl⟩ hS4
    repeat' walk_at "z"
    exact ⟨z3, _, _, hz3, by assumption, by walk_at "lk", by walk_at "lk", by walk_at "lk", rfl⟩
  · rintro z2 m2 ls2 s2 hz2 ⟨e1, e2, e3, rfl⟩ hS2
    have hza := hz1.trans hz2
    have ha2 := ha.mono hza
    refine zIf ?_
    clear hS hS1
    refine zCut (P := fun b s' => b = false ∧ ∃ z', FM.le z2 z' ∧ S c z' y L m2 [(dx, emptyDict)] s') ?_ ?_
    · repeat' walk_at "z"
      refine zNewT (by assumption) ?_
      intro tt z3 s3 hz3 htt hS3
      repeat' walk_at "z"
      rcases ha2 with ⟨t, rfl⟩ | ⟨t, rfl⟩ | ⟨q, t1, t2, rfl, hq⟩
      · refine zNotInLD (.inl rfl) hS3 htt ?_
        repeat' walk_at "z"
        exact ⟨rfl, z3, hz3, by assumption⟩
      · refine zNotInLD (.inr rfl) hS3 htt ?_
        repeat' walk_at "z"
        exact ⟨rfl, z3, hz3, by assumption⟩
      · refine zNotInLDT (hz3 _ _ hq) hS3 htt (by have := R.2.2; omega) ?_
        have hq3 := hz3 _ _ hq
        repeat' walk_at "z"
        exact ⟨rfl, z3, hz3, by assumption⟩
    rintro b s3 ⟨rfl, z3, hz3, hS3⟩
    repeat' walk_at "z"
    refine zSetA ok hS3 (by walk_at "zz") ⟨[], 0, rfl, .nil⟩ (by decide) (by k_is) (by k_is) (by k_is) (by k_is) ?_
    intro o1 s4 hF1 hS4
    have hF1 := hF1.cast (show _ = [(Str.ofString "action", act)] from rfl)
    repeat' walk_at "z"
    refine zDictOf ok (by assumption) (hd.mono (hza.trans hz3)) (by rw [ht.length]; exact Nat.le_trans h3 (by decide)) ?_
    intro wd z4 s5 hz4 hwd hS5
    repeat' walk_at "z"
    refine zSetA ok (by assumption) (by walk_at "zz") hF1 (by simp) (by k_is) (by k_is) (by k_is) (by k_is) ?_
    intro o2 s6 hF2 hS6
    have hF2 := hF2.cast (show _ = [(Str.ofString "action", act), (Str.ofString "wishes", wd)] from rfl)
    repeat' walk_at "z"
    have hz6 := S.le_freeze hS6
    have hzz := ((hza.trans hz3).trans hz4).trans hz6
    exact ⟨_, [], _, hzz, ⟨rfl, rfl, x, dx, o2, wd, rfl, hzz _ _ hx, FM.put_self, hF2, ⟨kvs, hwd.mono hz6, ht.mono hzz⟩, ha.mono hzz⟩, S.freeze hS6⟩
  · intro r z2 m2 ls2 s2 hz2 hf
    exact hf.elim
end
inductive All2 {α : Type} (R : Value → α → Prop) : List Value → List α → Prop
  | nil : All2 R [] []
  | cons {v a vs as} : R v a → All2 R vs as → All2 R (v :: vs) (a :: as)
section
variable {α : Type} {R R' : Value → α → Prop}
theorem All2.imp (h : ∀ v a, R v a → R' v a) {vs : List Value} {as : List α} (t : All2 R vs as) : All2 R' vs as := by
  induction t with
  | nil => exact .nil
  | cons a _ ih => exact .cons (h _ _ a) ih
theorem All2.length {vs : List Value} {as : List α} (t : All2 R vs as) : vs.length = as.length := by
  induction t with
  | nil => rfl
  | cons a _ ih => simp [ih]
theorem All2.get {vs : List Value} {as : List α} (t : All2 R vs as) : ∀ {i : Nat} {v : Value}, vs[i]? = some v → ∃ a, as[i]? = some a ∧ R v a := by
  induction t with
  | nil => intro i v e; simp at e
  | cons a _ ih =>
    intro i v e
    cases i with
    | zero => simp at e; subst e; exact ⟨_, rfl, a⟩
    | succ i => simp at e; exact ih e
theorem All2.at {vs : List Value} {as : List α} (t : All2 R vs as) : ∀ {i : Nat} {a : α}, as[i]? = some a → ∃ v, vs[i]? = some v ∧ R v a := by
  induction t with
  | nil => intro i v e; simp at e
  | cons a _ ih =>
    intro i v e
    cases i with
    | zero => simp at e; subst e; exact ⟨_, rfl, a⟩
    | succ i => simp at e; exact ih e
theorem All2.snoc {vs : List Value} {as : List α} (t : All2 R vs as) {v : Value} {a : α} (h : R v a) : All2 R (vs ++ [v]) (as ++ [a]) := by
  induction t with
  | nil => exact .cons h .nil
  | cons x _ ih => exact .cons x ih
end
def PairAt (z : FM) (v : Value) (p : Int × Wish) : Prop := ∃ a t wv, v = .ref a ∧ z a = some (tupO [.int p.1 t, wv]) ∧ WishAt z wv p.2
theorem PairAt.mono {z z' : FM} (h : FM.le z z') {v : Value} {p : Int × Wish} : PairAt z v p → PairAt z' v p := fun ⟨a, t, wv, e, q, r⟩ => ⟨a, t, wv, e, h _ _ q, r.mono h⟩
def PairList (z : FM) (v : Value) (ws : List (Int × Wish)) : Prop := ∃ l vs n, v = .ref l ∧ z l = some (lstO vs n) ∧ All2 (PairAt z) vs ws
def PairTup (z : FM) (v : Value) (ws : List (Int × Wish)) : Prop := ∃ l vs, v = .ref l ∧ z l = some (tupO vs) ∧ All2 (PairAt z) vs ws
theorem PairTup.mono {z z' : FM} (h : FM.le z z') {v : Value} {ws : List (Int × Wish)} : PairTup z v ws → PairTup z' v ws := fun ⟨l, vs, e, q, r⟩ => ⟨l, vs, e, h _ _ q, r.imp fun _ _ x => x.mono h⟩
section
variable {c : Cx} {z : FM}
theorem take_snoc {α : Type} {l : List α} {i : Nat} {x : α} (e : l[i]? = some x) : l.take (i + 1) = l.take i ++ [x] := by rw [List.take_add_one, e]; rfl
theorem spec_rows (ok : c.Ok) {v : Value} {r : RuleG} (hv : RuleAt c z v r) (hr : r.Ok) : Fn c 1 z 149 [v] [] [] (fun z' q ls => ls = [] ∧ PairList z' q r.ws) := by
  obtain ⟨h1, h2, h3⟩ := hr
  obtain ⟨x, dx, od, _, rfl, hx, hdx, hF, ⟨kvs, ⟨d, o, rfl, n1, hz, hD⟩, ht⟩, -⟩ := hv
  have hd : DictZ c z (.ref d) kvs := ⟨d, o, rfl, n1, hz, hD⟩
  have hk := ht.keys
  refine Fn.cells (binds := [(Str.ofString "self", .ref x)]) (m₀ := no) (cm₀ := upd no (Str.ofString "self") (.ref x)) ok (by k_is) (by k_is) (fun _ _ => BindsTo.of_eq rfl) (by rfl) (by decide) (fun _ => rfl) (fun _ => rfl) rfl rfl rfl ?_
  intro A y L s cells R Y hS
  have hh := R.1
  obtain ⟨oc, rfl, hc⟩ := (show CellsAre _ [(Str.ofString "self", L + 1)] cells from Y).one
  have hS1 := S.freeze hS
  have hz1 := S.le_freeze hS
  obtain ⟨z1, hz1', hcell⟩ : ∃ z1, z1 = z.put (L + 1) oc ∧ z1 (L + 1) = some oc := ⟨_, rfl, FM.put_self⟩
  rw [← hz1'] at hS1 hz1
  replace hc : oc.data = .cell (some (.ref x)) := hc
  clear hS
  walk_at "z"
  refine zListComp (cl := [(Str.ofString "self", L + 1)]) rfl rfl (by decide) ?_
  repeat' walk_at "z"
  refine zSorted ok (by assumption) hh (hd.mono hz1) (by rw [ht.length]; exact Nat.lt_of_le_of_lt h3 (by decide)) (by rw [hk]; exact le_of_lt_pw h1) ?_
  intro D vs n' s1 hvs hS2
  have hz2 := S.le_freeze hS2
  have hS3 := S.freeze hS2
  clear hS2
  refine zIterList hS3 FM.put_self ?_
  intro I o s2 st hS4
  refine comp_go (Itr.list (z := z1.put D (lstO vs n')) FM.put_self) hh hS4 st (by decide) rfl (by rw [hvs.length, List.length_map, ht.length]; exact Nat.le_trans h3 (by decide))
    (fun i z3 m3 ls3 acc => ls3 = [] ∧ All2 (PairAt z3) acc (r.ws.take i)) ⟨rfl, .nil⟩ ?_ ?_
  · rintro C i v z3 y3 m3 ls3 s3 acc hi hv hz3 ⟨rfl, hacc⟩ hS5
    obtain ⟨k, t, hki, rfl⟩ := ints_get hvs hv
    repeat' walk_at "z"
    rw [hk] at hki
    obtain ⟨w, hw⟩ := ws_at hki
    obtain ⟨wv, hwv, hwa⟩ := ht.at hw
    have hz4 := (hz1.trans hz2).trans hz3
    refine zDictGet (by assumption) (hd.mono hz4) (valueAt_of_get (by rw [hk]; exact nodup_of_lt h1) hwv) ?_
    intro s4 hS6
    repeat' walk_at "z"
    refine zNewT (by assumption) ?_
    intro tp z5 s5 hz5 htp hS7
    exact ⟨z5, _, [], hz5, hS7, rfl, by rw [take_snoc hw]; exact (hacc.imp fun _ _ x => x.mono hz5).snoc ⟨tp, t, wv, rfl, htp, hwa.mono (hz4.trans hz5)⟩⟩
  · rintro D2 C k z3 m3 mC ls3 s3 oC acc hz3 ⟨rfl, hacc⟩ yC hC hS5
    refine comp_ret hC hS5 yC fun s4 hS6 => ?_
    have hz6 := S.le_freeze hS6
    have e : vs.length = r.ws.length := by rw [hvs.length, List.length_map, ht.length]
    rw [e, List.take_length] at hacc
    exact ⟨_, [], _, ((hz1.trans hz2).trans hz3).trans hz6, ⟨rfl, D2, acc, k, rfl, FM.put_self, hacc.imp fun _ _ x => x.mono hz6⟩, S.freeze hS6⟩
end
def KeyAt (z : FM) (v : Value) (key : List Int) : Prop := ∃ p vs, v = .ref p ∧ z p = some (tupO vs) ∧ IntsAre vs key ∧ key.length = 10
theorem KeyAt.mono {z z' : FM} (h : FM.le z z') {v : Value} {key : List Int} : KeyAt z v key → KeyAt z' v key := fun ⟨p, vs, a, b, d⟩ => ⟨p, vs, a, h _ _ b, d⟩
def fld (key : List Int) (k : Int) : Int := key.getD k.toNat 0
def RuleG.hit (r : RuleG) (key : List Int) : Bool := r.ws.all fun p => p.2.holds (fld key p.1)
theorem ints_at {vs : List Value} {ns : List Int} (h : IntsAre vs ns) : ∀ {i : Nat} {k : Int}, ns[i]? = some k → ∃ t, vs[i]? = some (.int k t) := by
  induction h with
  | nil => intro i v e; simp at e
  | cons n t _ ih =>
    intro i v e
    cases i with
    | zero => simp at e; subst e; exact ⟨t, rfl⟩
    | succ i => simp at e; exact ih e
section
variable {c : Cx} {z : FM}
theorem zKeyGet {A : Around} {y : FM} {L : Addr} {m : Str → Option Value} {ls : List (Addr × Obj)} {s : Shared} {value slice : Expr} {v : Value} {key : List Int} {k : Int} {u : Tok} {Q : Value → Shared → Prop} (hS : S c z y L m ls s) (hv : KeyAt z v key) (hk : Place k)
    (h : ∀ t, Q (.int (fld key k) t) s) (hs : ∀ a, subscripted slice false (.ref a) (.int k u) = operate [.ref a, .int k u] (getItem (.ref a) (.int k u)) := by intro _; with_unfolding_all rfl) :
    W c A (subscriptTail value slice v (.int k u)) Q s := by
  obtain ⟨p, vs, rfl, hp, hi, hl⟩ := hv
  have : k.toNat < key.length := by rcases hk with rfl | rfl | rfl | rfl <;> rw [hl] <;> decide
  obtain ⟨t, ht⟩ := ints_at hi (show key[k.toNat]? = some (fld key k) by rw [fld, List.getD_eq_getElem?_getD]; simp [this])
  exact zItemT hS hp ht (h t) (by rcases hk with rfl | rfl | rfl | rfl <;> decide) (by rcases hk with rfl | rfl | rfl | rfl <;> decide) (hs p)
theorem spec_matches (ok : c.Ok) {v kv : Value} {r : RuleG} {key : List Int} (hv : RuleAt c z v r) (hr : r.Ok) (hkv : KeyAt z kv key) : Fn c 2 z 156 [v, kv] [] [] (fun z' q ls => ls = [] ∧ q = .bool (r.hit key)) := by
  have hv0 := hv
  obtain ⟨x, dx, od, wd, rfl, hx, hdx, hF, -, -⟩ := hv0
  refine Fn.plain (binds := [(Str.ofString "self", .ref x), (Str.ofString "key", kv)]) ok (by k_is) (by k_is) (fun _ _ => BindsTo.of_eq rfl) (locs rfl) (by decide) rfl rfl rfl ?_
  intro A y L s R hS
  have hh := R.1
  dsimp only [updsOf] at hS
  repeat' walk_at "z"
  refine zFn (spec_rows ok hv hr) R (by assumption) ?_
  rintro q z1 ls1 s1 hz1 ⟨rfl, l, vs, n', rfl, hl, hps⟩ hS1
  refine zForList hl hh hS1 (fun i z2 m2 ls2 => m2 (Str.ofString "key") = some kv ∧ ls2 = [] ∧ (r.ws.take i).all (fun p => p.2.holds (fld key p.1)) = true)
    (fun rv z2 m2 ls2 => rv = .bool false ∧ ls2 = [] ∧ r.hit key = false) ⟨by walk_at "lk", rfl, rfl⟩ ?_ ?_ ?_
  · rintro i v z2 y2 m2 ls2 s2 hi hv2 hz2 ⟨e1, rfl, hall⟩ hS2
    obtain ⟨⟨k, w⟩, hw, hp⟩ := hps.get hv2
    obtain ⟨a, t, wv, rfl, ha, hwv⟩ := hp.mono hz2
    have hg := hr.2.1 _ (List.mem_of_getElem? hw)
    repeat' walk_at "z"
    refine zKeyGet (by assumption) (hkv.mono (hz1.trans hz2)) hg.1 ?_
    intro t2
    repeat' walk_at "z"
    refine zFn (spec_wish_holds ok hwv) (R.le (by decide)) (by assumption) ?_
    rintro _ z3 ls3 s3 hz3 ⟨rfl, rfl⟩ hS3
    repeat' walk_at "z"
    refine zIte ?_ ?_ <;> intro hb
    · repeat' walk_at "z"
      exact ⟨z3, _, [], hz3, by assumption, rfl, rfl, not_all hw (by simpa using hb)⟩
    · repeat' walk_at "z"
      exact ⟨z3, _, [], hz3, by assumption, by walk_at "lk", rfl, all_take hall hw (by simpa using hb)⟩
  · rintro z2 m2 ls2 s2 hz2 ⟨e1, rfl, hall⟩ hS2
    rw [hps.length, List.take_length] at hall
    repeat' walk_at "z"
    exact ⟨z2, [], _, hz1.trans hz2, ⟨rfl, by simp only [retOf, RuleG.hit]; rw [hall]⟩, by assumption⟩
  · rintro rv z2 m2 ls2 s2 hz2 ⟨rfl, rfl, hall⟩ hS2
    exact ⟨z2, [], _, hz1.trans hz2, ⟨rfl, by simp only [retOf]; rw [hall]⟩, by assumption⟩
end
def RulesAt (c : Cx) (z : FM) (v : Value) (rs : List RuleG) : Prop := ∃ l vs n, v = .ref l ∧ z l = some (lstO vs n) ∧ All2 (RuleAt c z) vs rs
theorem RulesAt.mono {c : Cx} {z z' : FM} (h : FM.le z z') {v : Value} {rs : List RuleG} : RulesAt c z v rs → RulesAt c z' v rs := fun ⟨l, vs, n, a, b, d⟩ => ⟨l, vs, n, a, h _ _ b, d.imp fun _ _ x => x.mono h⟩
abbrev TRow := Int × List (Int × Wish)
def TRowAt (z : FM) (v : Value) (r : TRow) : Prop := ∃ p t av, v = .ref p ∧ z p = some (tupO [.int r.1 t, av]) ∧ PairTup z av r.2
theorem TRowAt.mono {z z' : FM} (h : FM.le z z') {v : Value} {r : TRow} : TRowAt z v r → TRowAt z' v r := fun ⟨p, t, av, a, b, d⟩ => ⟨p, t, av, a, h _ _ b, d.mono h⟩
def TRows (z : FM) (v : Value) (rows : List TRow) : Prop := ∃ l vs n, v = .ref l ∧ z l = some (lstO vs n) ∧ All2 (TRowAt z) vs rows
theorem TRows.mono {z z' : FM} (h : FM.le z z') {v : Value} {rows : List TRow} : TRows z v rows → TRows z' v rows := fun ⟨l, vs, n, a, b, d⟩ => ⟨l, vs, n, a, h _ _ b, d.imp fun _ _ x => x.mono h⟩
def openRows (rs : List RuleG) : List TRow := rs.zipIdx.map fun p => ((p.2 : Int), p.1.ws)
theorem openRows_at {rs : List RuleG} {i : Nat} {r : RuleG} (h : rs[i]? = some r) : (openRows rs)[i]? = some ((i : Int), r.ws) := by
  unfold openRows; simp [h]
theorem openRows_length {rs : List RuleG} : (openRows rs).length = rs.length := by simp [openRows]
section
variable {c : Cx} {z : FM}
theorem spec_open_rows (ok : c.Ok) {v : Value} {rs : List RuleG} (hv : RulesAt c z v rs) (hr : ∀ r ∈ rs, r.Ok) (hn : rs.length ≤ 100) : Fn c 2 z 175 [v] [] [] (fun z' q ls => ls = [] ∧ TRows z' q (openRows rs)) := by
  obtain ⟨l, vs, n, rfl, hl, hvs⟩ := hv
  have hlen := hvs.length
  refine Fn.cells (binds := [(Str.ofString "rules", .ref l)]) (m₀ := no) (cm₀ := upd no (Str.ofString "rules") (.ref l)) ok (by k_is) (by k_is) (fun _ _ => BindsTo.of_eq rfl) (by rfl) (by decide) (fun _ => rfl) (fun _ => rfl) rfl rfl rfl ?_
  intro A y L s cells R Y hS
  have hh := R.1
  obtain ⟨oc, rfl, hc⟩ := (show CellsAre _ [(Str.ofString "rules", L + 1)] cells from Y).one
  have hS1 := S.freeze hS
  have hz1 := S.le_freeze hS
  obtain ⟨z1, hz1', hcell⟩ : ∃ z1, z1 = z.put (L + 1) oc ∧ z1 (L + 1) = some oc := ⟨_, rfl, FM.put_self⟩
  rw [← hz1'] at hS1 hz1
  replace hc : oc.data = .cell (some (.ref l)) := hc
  clear hS
  walk_at "z"
  refine zListComp (cl := [(Str.ofString "rules", L + 1)]) rfl rfl (by decide) ?_
  repeat' walk_at "z"
  refine zLenL (by assumption) (by walk_at "zg") (by rw [hlen]; exact Nat.le_trans hn (by decide)) ?_
  intro t s1 hS2 _
  repeat' walk_at "z"
  refine zRange (by assumption) ?_
  intro rg t1 t2 z2 s2 hz2 hrg hS3
  refine zIterRange hS3 hrg (by rw [hlen]; exact Nat.le_trans hn (by decide)) ?_
  intro I o s3 st hS4
  refine comp_go (Itr.range (z := z2) (b := 0) (n := vs.length)) hh hS4 st (by decide) rfl (by rw [hlen]; exact Nat.le_trans hn (by decide))
    (fun i z3 m3 ls3 acc => ls3 = [] ∧ All2 (TRowAt z3) acc ((openRows rs).take i)) ⟨rfl, .nil⟩ ?_ ?_
  · rintro C i v z3 y3 m3 ls3 s3 acc hi ⟨t3, rfl⟩ hz3 ⟨rfl, hacc⟩ hS5
    have ei : (0 : Int) + i = i := by omega
    rw [ei]
    obtain ⟨r, hri⟩ : ∃ r, rs[i]? = some r := ⟨rs[i]'(by omega), by simp⟩
    obtain ⟨rv, hrv, hra⟩ := hvs.at hri
    have hri' := hr r (List.mem_of_getElem? hri)
    repeat' walk_at "z"
    refine zItemL (by walk_at "zg") (by omega) (by omega) (by simpa using hrv) ?_
    obtain ⟨x, dx, od, wd, rfl, hx, hdx, hF, hwd, hact⟩ := hra.mono ((hz1.trans hz2).trans hz3)
    have hra4 : RuleAt c z3 (.ref x) r := ⟨x, dx, od, wd, rfl, hx, hdx, hF, hwd, hact⟩
    repeat' walk_at "z"
    refine zFn (spec_rows ok hra4 hri') R (by assumption) ?_
    rintro q z5 ls5 s5 hz5 ⟨rfl, l5, vs5, n5, rfl, hl5, hps⟩ hS6
    repeat' walk_at "z"
    have hl5' := hps.length
    refine zTupleOf (by assumption) (by walk_at "zg") (by have := hri'.2.2; omega) ?_
    intro T z6 s6 hz6 hT hS7
    repeat' walk_at "z"
    refine zNewT (by assumption) ?_
    intro tp z7 s7 hz7 htp hS8
    exact ⟨z7, _, [], (hz5.trans hz6).trans hz7, hS8, rfl, by
      rw [take_snoc (openRows_at hri)]
      exact (hacc.imp fun _ _ x => x.mono ((hz5.trans hz6).trans hz7)).snoc ⟨tp, t3, _, rfl, htp, T, vs5, rfl, hz7 _ _ hT, hps.imp fun _ _ x => x.mono (hz6.trans hz7)⟩⟩
  · rintro D2 C k z3 m3 mC ls3 s3 oC acc hz3 ⟨rfl, hacc⟩ yC hC hS5
    refine comp_ret hC hS5 yC fun s4 hS6 => ?_
    have hz6 := S.le_freeze hS6
    rw [hlen, ← openRows_length (rs := rs), List.take_length] at hacc
    exact ⟨_, [], _, ((hz1.trans hz2).trans hz3).trans hz6, ⟨rfl, D2, acc, k, rfl, FM.put_self, hacc.imp fun _ _ x => x.mono hz6⟩, S.freeze hS6⟩
end
def keepP (field : Int) (w : Wish) (p : Int × Wish) : Bool := p.1 != field || (meet p.2 w (bitsOf field) && !within w p.2 (bitsOf field))
def possP (field : Int) (w : Wish) (p : Int × Wish) : Bool := p.1 != field || meet p.2 w (bitsOf field)
def soRow (field : Int) (w : Wish) (r : TRow) : Option TRow := if r.2.all (possP field w) then some (r.1, r.2.filter (keepP field w)) else none
def rowsIfSo (rows : List TRow) (field : Int) (w : Wish) : List TRow := rows.filterMap (soRow field w)
theorem filter_snoc {α : Type} {p : α → Bool} {l : List α} {i : Nat} {x : α} (e : l[i]? = some x) : (l.take (i + 1)).filter p = (l.take i).filter p ++ (if p x then [x] else []) := by
  rw [take_snoc e, List.filter_append]; cases h : p x <;> simp [h]
theorem all_snoc {α : Type} {p : α → Bool} {l : List α} {i : Nat} {x : α} (e : l[i]? = some x) : (l.take (i + 1)).all p = ((l.take i).all p && p x) := by
  rw [take_snoc e, List.all_append]; simp
theorem fmap_snoc {α β : Type} {f : α → Option β} {l : List α} {i : Nat} {x : α} (e : l[i]? = some x) : (l.take (i + 1)).filterMap f = (l.take i).filterMap f ++ (match f x with | some b => [b] | none => []) := by
  rw [take_snoc e, List.filterMap_append]; cases h : f x <;> simp [h]
section
variable {c : Cx} {z : FM}
theorem spec_rows_if_so (ok : c.Ok) {v wv : Value} {rows : List TRow} {field : Int} {tf : Tok} {w : Wish} (hv : TRows z v rows) (hf : Place field) (hwv : WishAt z wv w) (hw : w.small) (hr : ∀ r ∈ rows, r.2.length ≤ 4 ∧ ∀ p ∈ r.2, Good p) (hn : rows.length ≤ 100) :
    Fn c 4 z 182 [v, .int field tf, wv] [] [] (fun z' q ls => ls = [] ∧ TRows z' q (rowsIfSo rows field w)) := by
  refine Fn.plain (binds := [(Str.ofString "rows", v), (Str.ofString "field", .int field tf), (Str.ofString "wish", wv)]) ok (by k_is) (by k_is) (fun _ _ => BindsTo.of_eq rfl) (locs rfl) (by decide) rfl rfl rfl ?_
  intro A y L s R hS
  have hh := R.1
  have hb := Good.bits (k := field)
  dsimp only [updsOf] at hS
  refine zAssignT2 (names := [Str.ofString "found", Str.ofString "bits"]) ?_
  repeat' walk_at "z"
  refine zNewL (by assumption) ?_
  intro lf s1 hS1
  clear hS
  repeat' walk_at "z"
  refine zFieldBits ok (by assumption) hf ?_
  intro tb
  repeat' walk_at "z"
  refine zNewT (by assumption) ?_
  intro t z1 s2 hz1 ht hS2
  refine zUnpackItems hS2 ht R.1 rfl ?_
  intro s3 hS3
  clear hS2 hS1
  repeat' walk_at "z"
  obtain ⟨l, vs, n, rfl, hl, hvs⟩ := hv
  refine zForList (hz1 _ _ hl) hh (by assumption) (fun i z2 m2 ls2 => m2 (Str.ofString "field") = some (.int field tf) ∧ m2 (Str.ofString "wish") = some wv ∧ m2 (Str.ofString "bits") = some (.int (bitsOf field) tb) ∧ m2 (Str.ofString "found") = some (.ref lf) ∧
      ∃ fs nf, ls2 = [(lf, lstO fs nf)] ∧ All2 (TRowAt z2) fs (rowsIfSo (rows.take i) field w) ∧ fs.length ≤ i)
    (fun _ _ _ _ => False) ⟨by walk_at "lk", by walk_at "lk", by walk_at "lk", by walk_at "lk", [], _, rfl, .nil, Nat.le_refl _⟩ ?_ ?_ ?_
  · rintro i v z2 y2 m2 ls2 s4 hi hv2 hz2 ⟨e1, e2, e3, e4, fs, nf, rfl, hfs, hfl⟩ hS4
    obtain ⟨⟨pl, ws⟩, hws, hra⟩ := hvs.get hv2
    have hrow := hr _ (List.mem_of_getElem? hws)
    obtain ⟨a, tp, av, rfl, ha, lt, pvs, rfl, hlt, hps⟩ := hra.mono (hz1.trans hz2)
    have hil : i < rows.length := by rw [← hvs.length]; exact hi
    repeat' walk_at "z"
    refine zAssignT2 (names := [Str.ofString "left", Str.ofString "is_possible"]) ?_
    repeat' walk_at "z"
    refine zNewL (by assumption) ?_
    intro ll s5 hS5
    repeat' walk_at "z"
    refine zNewT (by assumption) ?_
    intro t2 z3 s6 hz3 ht2 hS6
    refine zUnpackItems hS6 ht2 R.1 rfl ?_
    intro s7 hS7
    clear hS6 hS5
    repeat' walk_at "z"
    refine zForTup (hz3 _ _ hlt) hh (by assumption) (fun j z4 m4 ls4 => m4 (Str.ofString "field") = some (.int field tf) ∧ m4 (Str.ofString "wish") = some wv ∧ m4 (Str.ofString "bits") = some (.int (bitsOf field) tb) ∧ m4 (Str.ofString "found") = some (.ref lf) ∧
        m4 (Str.ofString "place") = some (.int pl tp) ∧ m4 (Str.ofString "left") = some (.ref ll) ∧ m4 (Str.ofString "is_possible") = some (.bool ((ws.take j).all (possP field w))) ∧
        ∃ qs nq, ls4 = [(ll, lstO qs nq), (lf, lstO fs nf)] ∧ ((ws.take j).all (possP field w) = true → All2 (PairAt z4) qs ((ws.take j).filter (keepP field w))) ∧ qs.length ≤ j)
      (fun _ _ _ _ => False) ⟨by walk_at "lk", by walk_at "lk", by walk_at "lk", by walk_at "lk", by walk_at "lk", by walk_at "lk", by walk_at "lk", [], _, rfl, fun _ => .nil, Nat.le_refl _⟩ ?_ ?_ ?_
    · rintro j v z4 y4 m4 ls4 s8 hj hv4 hz4 ⟨f1, f2, f3, f4, f5, f6, f7, qs, nq, rfl, hqs, hql⟩ hS8
      obtain ⟨⟨k, w2⟩, hw2, hpa⟩ := hps.get hv4
      obtain ⟨b, tk, wv2, rfl, hba, hwv2⟩ := hpa.mono (hz3.trans hz4)
      have hg := hrow.2 _ (List.mem_of_getElem? hw2)
      have hjl : j < 4 := by have := hrow.1; have := hps.length; omega
      repeat' walk_at "z"
      refine zIte ?_ ?_ <;> intro hb1
      · have hne : k ≠ field := by simpa using hb1
        repeat' walk_at "z"
        refine zNewT (by assumption) ?_
        intro t5 z5 s9 hz5 ht5 hS9
        repeat' walk_at "z"
        refine zAppend hS9 ?_ (by omega)
        intro s10 hS10
        clear hS9
        repeat' walk_at "z"
        have k1 : possP field w (k, w2) = true := by simp [possP, hne]
        have k2 : keepP field w (k, w2) = true := by simp [keepP, hne]
        refine ⟨z5, _, _, hz5, by assumption, by walk_at "lk", by walk_at "lk", by walk_at "lk", by walk_at "lk", by walk_at "lk", by walk_at "lk", ?_, _, _, rfl, ?_, ?_⟩
        · rw [all_snoc hw2, k1, Bool.and_true]; walk_at "lk"
        · intro q
          rw [all_snoc hw2, k1, Bool.and_true] at q
          rw [filter_snoc hw2, k2]
          exact ((hqs q).imp fun _ _ x => x.mono hz5).snoc ⟨t5, tk, wv2, rfl, ht5, hwv2.mono hz5⟩
        · rw [List.length_append]; simp; omega
      · have heq : k = field := by simpa using hb1
        subst heq
        repeat' walk_at "z"
        refine zFn (spec_do_wishes_meet ok hwv2 (hwv.mono (((hz1.trans hz2).trans hz3).trans hz4)) hb.1 hb.2 hg.2.2 hw) R (by assumption) ?_
        rintro _ z5 ls5 s9 hz5 ⟨rfl, rfl⟩ hS9
        repeat' walk_at "z"
        refine zIte ?_ ?_ <;> intro hb2
        · have hm : meet w2 w (bitsOf k) = false := by simpa using hb2
          have k1 : possP k w (k, w2) = false := by simp [possP, hm]
          repeat' walk_at "z"
          refine ⟨z5, _, _, hz5, by assumption, by walk_at "lk", by walk_at "lk", by walk_at "lk", by walk_at "lk", by walk_at "lk", by walk_at "lk", ?_, qs, nq, rfl, ?_, by omega⟩
          · rw [all_snoc hw2, k1, Bool.and_false]; walk_at "lk"
          · intro q
            rw [all_snoc hw2, k1, Bool.and_false] at q; cases q
        · have hm : meet w2 w (bitsOf k) = true := by simpa using hb2
          have k1 : possP k w (k, w2) = true := by simp [possP, hm]
          repeat' walk_at "z"
          refine zFn (spec_is_wish_within ok (hwv.mono ((((hz1.trans hz2).trans hz3).trans hz4).trans hz5)) (hwv2.mono hz5) hb.1 hb.2 hw hg.2.2) R (by assumption) ?_
          rintro _ z6 ls6 s10 hz6 ⟨rfl, rfl⟩ hS10
          repeat' walk_at "z"
          refine zIte ?_ ?_ <;> intro hb3
          · have hwi : within w w2 (bitsOf k) = false := by simpa using hb3
            have k2 : keepP k w (k, w2) = true := by simp [keepP, hm, hwi]
            repeat' walk_at "z"
            refine zNewT (by assumption) ?_
            intro t5 z7 s11 hz7 ht5 hS11
            repeat' walk_at "z"
            refine zAppend hS11 ?_ (by omega)
            intro s12 hS12
            clear hS11 hS10 hS9
            repeat' walk_at "z"
            refine ⟨z7, _, _, (hz5.trans hz6).trans hz7, by assumption, by walk_at "lk", by walk_at "lk", by walk_at "lk", by walk_at "lk", by walk_at "lk", by walk_at "lk", ?_, _, _, rfl, ?_, ?_⟩
            · rw [all_snoc hw2, k1, Bool.and_true]; walk_at "lk"
            · intro q
              rw [all_snoc hw2, k1, Bool.and_true] at q
              rw [filter_snoc hw2, k2]
              exact ((hqs q).imp fun _ _ x => x.mono ((hz5.trans hz6).trans hz7)).snoc ⟨t5, tk, wv2, rfl, ht5, hwv2.mono ((hz5.trans hz6).trans hz7)⟩
            · rw [List.length_append]; simp; omega
          · have hwi : within w w2 (bitsOf k) = true := by simpa using hb3
            have k2 : keepP k w (k, w2) = false := by simp [keepP, hwi]
            repeat' walk_at "z"
            refine ⟨z6, _, _, hz5.trans hz6, by assumption, by walk_at "lk", by walk_at "lk", by walk_at "lk", by walk_at "lk", by walk_at "lk", by walk_at "lk", ?_, qs, nq, rfl, ?_, by omega⟩
            · rw [all_snoc hw2, k1, Bool.and_true]; walk_at "lk"
            · intro q
              rw [all_snoc hw2, k1, Bool.and_true] at q
              rw [filter_snoc hw2, k2]
              simpa using (hqs q).imp fun _ _ x => x.mono (hz5.trans hz6)
    · rintro z4 m4 ls4 s8 hz4 ⟨f1, f2, f3, f4, f5, f6, f7, qs, nq, rfl, hqs, hql⟩ hS8
      have hpl := hps.length
      rw [hpl, List.take_length] at f7 hqs
      repeat' walk_at "z"
      refine zIte ?_ ?_ <;> intro hb1
      · have hso : soRow field w (pl, ws) = some (pl, ws.filter (keepP field w)) := by unfold soRow; rw [if_pos hb1]
        repeat' walk_at "z"
        refine zTupleOf (by assumption) (by walk_at "zg") (by have := hrow.1; omega) ?_
        intro T z5 s9 hz5 hT hS9
        repeat' walk_at "z"
        refine zNewT (by assumption) ?_
        intro t5 z6 s10 hz6 ht5 hS10
        repeat' walk_at "z"
        refine zAppend (S.drop hS10) ?_ (by omega)
        intro s11 hS11
        clear hS10 hS9 hS8
        repeat' walk_at "z"
        refine ⟨z6, _, _, ((hz3.trans hz4).trans hz5).trans hz6, by assumption, by walk_at "lk", by walk_at "lk", by walk_at "lk", by walk_at "lk", _, _, rfl, ?_, by rw [List.length_append]; simp; omega⟩
        unfold rowsIfSo
        rw [fmap_snoc hws, hso]
        exact (hfs.imp fun _ _ x => x.mono (((hz3.trans hz4).trans hz5).trans hz6)).snoc ⟨t5, tp, _, rfl, ht5, T, qs, rfl, hz6 _ _ hT, (hqs hb1).imp fun _ _ x => x.mono (hz5.trans hz6)⟩
      · have hso : soRow field w (pl, ws) = none := by unfold soRow; rw [hb1]; rfl
        repeat' walk_at "z"
        refine ⟨z4, _, _, hz3.trans hz4, S.drop (by assumption), by walk_at "lk", by walk_at "lk", by walk_at "lk", by walk_at "lk", fs, nf, rfl, ?_, by omega⟩
        unfold rowsIfSo
        rw [fmap_snoc hws, hso, List.append_nil]
        exact hfs.imp fun _ _ x => x.mono (hz3.trans hz4)
    · rintro r z4 m4 ls4 s8 hz4 hf
      exact hf.elim
  · rintro z2 m2 ls2 s4 hz2 ⟨e1, e2, e3, e4, fs, nf, rfl, hfs, hfl⟩ hS4
    rw [hvs.length, List.take_length] at hfs
    repeat' walk_at "z"
    have hzf := S.le_freeze hS4
    exact ⟨_, [], _, (hz1.trans hz2).trans hzf, ⟨rfl, lf, fs, nf, rfl, FM.put_self, hfs.imp fun _ _ x => x.mono hzf⟩, S.freeze hS4⟩
  · rintro r z2 m2 ls2 s4 hz2 hf
    exact hf.elim
end
def notP (field : Int) (w : Wish) (p : Int × Wish) : Bool := !(p.1 == field && within p.2 w (bitsOf field))
def rowsIfNot (rows : List TRow) (field : Int) (w : Wish) : List TRow := rows.filter fun r => r.2.all (notP field w)
section
variable {c : Cx} {z : FM}
theorem S.rot3 {y : FM} {L : Addr} {m : Str → Option Value} {p q r : Addr × Obj} {ls : List (Addr × Obj)} {s : Shared} (h : S c z y L m (p :: q :: r :: ls) s) : S c z y L m (q :: r :: p :: ls) s :=
  h.perm (((List.Perm.swap p r ls).cons q).trans (List.Perm.swap p q (r :: ls)))
theorem spec_rows_if_not (ok : c.Ok) {v wv : Value} {rows : List TRow} {field : Int} {tf : Tok} {w : Wish} (hv : TRows z v rows) (hf : Place field) (hwv : WishAt z wv w) (hw : w.small) (hr : ∀ r ∈ rows, r.2.length ≤ 4 ∧ ∀ p ∈ r.2, Good p) (hn : rows.length ≤ 100) :
    Fn c 4 z 187 [v, .int field tf, wv] [] [] (fun z' q ls => ls = [] ∧ TRows z' q (rowsIfNot rows field w)) := by
  refine Fn.cells (binds := [(Str.ofString "rows", v), (Str.ofString "field", .int field tf), (Str.ofString "wish", wv)]) (m₀ := upd no (Str.ofString "rows") v) (cm₀ := upd (upd no (Str.ofString "field") (.int field tf)) (Str.ofString "wish") wv)
    ok (by k_is) (by k_is) (fun _ _ => BindsTo.of_eq rfl) (by rfl) (by decide) (fun _ => rfl) (fun _ => rfl) rfl rfl rfl ?_
  intro A y L s cells R Y hS
  have hh := R.1
  have hu : A.units < cLine := by have := R.2.2; omega
  have hb := Good.bits (k := field)
  obtain ⟨ob, ow, of, rfl, hob, how, hof⟩ := (show CellsAre _ [(Str.ofString "bits", L + 3), (Str.ofString "wish", L + 2), (Str.ofString "field", L + 1)] cells from Y).three
  replace how : ow.data = .cell (some wv) := how
  replace hof : of.data = .cell (some (.int field tf)) := hof
  replace hob : ob.data = .cell none := hob
  have hS0 := S.rot3 hS
  have hz0 := S.le_freeze hS0
  have hS1 := S.freeze hS0
  obtain ⟨z0, hz0', hcw⟩ : ∃ z0, z0 = z.put (L + 2) ow ∧ z0 (L + 2) = some ow := ⟨_, rfl, FM.put_self⟩
  rw [← hz0'] at hS1 hz0
  have hz1 := S.le_freeze hS1
  have hS2 := S.freeze hS1
  obtain ⟨z1, hz1', hcf⟩ : ∃ z1, z1 = z0.put (L + 1) of ∧ z1 (L + 1) = some of := ⟨_, rfl, FM.put_self⟩
  rw [← hz1'] at hS2 hz1
  clear hS hS0 hS1
  repeat' walk_at "z"
  refine zNewL (by assumption) ?_
  intro lf s1 hS3
  repeat' walk_at "z"
  refine zFieldBits ok (by assumption) hf ?_
  intro tb
  repeat' walk_at "z"
  refine zNewT (by assumption) ?_
  intro t z2 s2 hz2 ht hS4
  repeat' walk_at "z"
  refine eStoreC (S.second (by assumption)) hob ?_
  intro ob' s3 hob' hS5
  have hz3 := S.le_freeze hS5
  have hS6 := S.freeze hS5
  obtain ⟨z3, hz3', hcb⟩ : ∃ z3, z3 = z2.put (L + 3) ob' ∧ z3 (L + 3) = some ob' := ⟨_, rfl, FM.put_self⟩
  rw [← hz3'] at hS6 hz3
  clear hS2 hS3 hS5
  repeat' walk_at "z"
  obtain ⟨l, vs, n, rfl, hl, hvs⟩ := hv
  refine zForList (((((hz0.trans hz1).trans hz2).trans hz3)) _ _ hl) hh (by assumption) (fun i z2 m2 ls2 => m2 (Str.ofString "found") = some (.ref lf) ∧
      ∃ fs nf, ls2 = [(lf, lstO fs nf)] ∧ All2 (TRowAt z2) fs (rowsIfNot (rows.take i) field w) ∧ fs.length ≤ i)
    (fun _ _ _ _ => False) ⟨by walk_at "lk", [], _, rfl, .nil, Nat.le_refl _⟩ ?_ ?_ ?_
  · rintro i v z4 y4 m4 ls4 s4 hi hv2 hz4 ⟨e1, fs, nf, rfl, hfs, hfl⟩ hS7
    obtain ⟨⟨pl, ws⟩, hws, hra⟩ := hvs.get hv2
    have hrow := hr _ (List.mem_of_getElem? hws)
    obtain ⟨a, tp, av, rfl, ha, lt, pvs, rfl, hlt, hps⟩ := hra.mono ((((hz0.trans hz1).trans hz2).trans hz3).trans hz4)
    have hil : i < rows.length := by rw [← hvs.length]; exact hi
    have hpl := hps.length
    repeat' walk_at "z"
    refine zAssignComp (cl := [(Str.ofString "wish", L + 2), (Str.ofString "field", L + 1), (Str.ofString "bits", L + 3)]) rfl rfl (by decide) rfl ?_
    repeat' walk_at "z"
    refine zIterTup (by assumption) hlt ?_
    intro I o s5 st hS8
    refine comp_go (Itr.tup (z := z4) hlt) hh hS8 st (by decide) rfl (by rw [hpl]; exact Nat.le_trans hrow.1 (by decide))
      (fun j z5 m5 ls5 acc => ls5 = [(lf, lstO fs nf)] ∧ acc.isEmpty = (ws.take j).all (notP field w)) ⟨rfl, rfl⟩ ?_ ?_
    · rintro C j v z5 y5 m5 ls5 s6 acc hj hv5 hz5 ⟨rfl, hacc⟩ hS9
      obtain ⟨⟨k, w2⟩, hw2, hpa⟩ := hps.get hv5
      obtain ⟨b, tk, wv2, rfl, hba, hwv2⟩ := hpa.mono hz5
      have hg := hrow.2 _ (List.mem_of_getElem? hw2)
      repeat' walk_at "z"
      refine zIte ?_ ?_ <;> intro hb1
      · have heq : k = field := by simpa using hb1
        subst heq
        repeat' walk_at "z"
        refine zFn (spec_is_wish_within ok hwv2 (hwv.mono (((((hz0.trans hz1).trans hz2).trans hz3).trans hz4).trans hz5)) hb.1 hb.2 hg.2.2 hw) R (by assumption) ?_
        rintro _ z6 ls6 s7 hz6 ⟨rfl, rfl⟩ hS10
        repeat' walk_at "z"
        refine zIte ?_ ?_ <;> intro hb2
        · have k1 : notP k w (k, w2) = false := by simpa [notP] using hb2
          repeat' walk_at "z"
          exact ⟨z6, _, _, hz6, by assumption, rfl, by rw [all_snoc hw2, k1, Bool.and_false]; simp⟩
        · have k1 : notP k w (k, w2) = true := by simpa [notP] using hb2
          repeat' walk_at "z"
          exact ⟨z6, _, _, hz6, by assumption, rfl, by rw [all_snoc hw2, k1, Bool.and_true]; exact hacc⟩
      · have k1 : notP field w (k, w2) = true := (by have q : (k == field) = false := hb1; show (!((k == field) && _)) = true; rw [q]; rfl)
        repeat' walk_at "z"
        exact ⟨z5, _, _, FM.le.refl z5, by assumption, rfl, by rw [all_snoc hw2, k1, Bool.and_true]; exact hacc⟩
    · rintro D2 C k z5 m5 mC ls5 s6 oC acc hz5 ⟨rfl, hacc⟩ yC hC hS9
      refine comp_use hC hS9 yC fun s7 hS10 => ?_
      rw [hpl, List.take_length] at hacc
      clear hS8 hS9
      repeat' walk_at "z"
      refine zNewL (by assumption) ?_
      intro be s8 hS11
      repeat' walk_at "z"
      refine zEqNil (by walk_at "zg") (by walk_at "zg") hu ?_
      repeat' walk_at "z"
      rw [hacc]
      refine zIte ?_ ?_ <;> intro hb1
      · repeat' walk_at "z"
        refine zNewT (by assumption) ?_
        intro tt z6 s9 hz6 htt hS12
        repeat' walk_at "z"
        refine zAppend (S.drop (S.drop hS12)) ?_ (by omega)
        intro s10 hS13
        clear hS10 hS11 hS12
        repeat' walk_at "z"
        refine ⟨z6, _, _, hz5.trans hz6, by assumption, by walk_at "lk", _, _, rfl, ?_, by rw [List.length_append]; simp; omega⟩
        unfold rowsIfNot
        rw [filter_snoc hws, if_pos (by exact hb1)]
        exact (hfs.imp fun _ _ x => x.mono (hz5.trans hz6)).snoc ⟨tt, tp, _, rfl, htt, lt, pvs, rfl, hz6 _ _ (hz5 _ _ hlt), hps.imp fun _ _ x => x.mono (hz5.trans hz6)⟩
      · repeat' walk_at "z"
        refine ⟨z5, _, _, hz5, S.drop (S.drop (by assumption)), by walk_at "lk", fs, nf, rfl, ?_, by omega⟩
        unfold rowsIfNot
        rw [filter_snoc hws, if_neg (by rw [hb1]; decide), List.append_nil]
        exact hfs.imp fun _ _ x => x.mono hz5
  · rintro z4 m4 ls4 s4 hz4 ⟨e1, fs, nf, rfl, hfs, hfl⟩ hS7
    rw [hvs.length, List.take_length] at hfs
    repeat' walk_at "z"
    have hzf := S.le_freeze hS7
    exact ⟨_, [], _, ((((hz0.trans hz1).trans hz2).trans hz3).trans hz4).trans hzf, ⟨rfl, lf, fs, nf, rfl, FM.put_self, hfs.imp fun _ _ x => x.mono hzf⟩, S.freeze hS7⟩
  · rintro r z2 m2 ls2 s4 hz2 hf
    exact hf.elim
end
inductive Node where
  | pend
  | leaf (p : Option Int)
  | lst (ps : List Int)
  | ask (field : Int) (w : Wish) (yes no : Int)
def NodeAt (z : FM) (v : Value) : Node → Prop
  | .pend => v = .none
  | .leaf none => ∃ p t, v = .ref p ∧ z p = some (tupO [.str (Str.ofString "leaf") t, .none])
  | .leaf (some i) => ∃ p t t1, v = .ref p ∧ z p = some (tupO [.str (Str.ofString "leaf") t, .int i t1])
  | .lst ps => ∃ p t q vs, v = .ref p ∧ z p = some (tupO [.str (Str.ofString "list") t, .ref q]) ∧ z q = some (tupO vs) ∧ IntsAre vs ps
  | .ask f w y n => ∃ p t t1 wv t2 t3, v = .ref p ∧ z p = some (tupO [.str (Str.ofString "ask") t, .int f t1, wv, .int y t2, .int n t3]) ∧ WishAt z wv w
theorem NodeAt.mono {z z' : FM} (h : FM.le z z') {v : Value} : ∀ {n : Node}, NodeAt z v n → NodeAt z' v n
  | .pend, e => e
  | .leaf none, ⟨p, t, e, q⟩ => ⟨p, t, e, h _ _ q⟩
  | .leaf (some i), ⟨p, t, t1, e, q⟩ => ⟨p, t, t1, e, h _ _ q⟩
  | .lst ps, ⟨p, t, q, vs, e, a, b, d⟩ => ⟨p, t, q, vs, e, h _ _ a, h _ _ b, d⟩
  | .ask f w y n, ⟨p, t, t1, wv, t2, t3, e, a, b⟩ => ⟨p, t, t1, wv, t2, t3, e, h _ _ a, b.mono h⟩
abbrev Wait := Int × List TRow
def WaitAt (z : FM) (v : Value) (w : Wait) : Prop := ∃ p t rv, v = .ref p ∧ z p = some (tupO [.int w.1 t, rv]) ∧ TRows z rv w.2
theorem WaitAt.mono {z z' : FM} (h : FM.le z z') {v : Value} {w : Wait} : WaitAt z v w → WaitAt z' v w := fun ⟨p, t, rv, e, a, b⟩ => ⟨p, t, rv, e, h _ _ a, b.mono h⟩
def RowsOk (rows : List TRow) : Prop := rows.length ≤ 100 ∧ ∀ r ∈ rows, r.2.length ≤ 4 ∧ ∀ p ∈ r.2, Good p
def growN (most : Int) (nodes : List Node) (num : Int) (rows : List TRow) : List Node := match rows with
  | [] => nodes.set num.toNat (.leaf none)
  | (place, []) :: _ => nodes.set num.toNat (.leaf (some place))
  | (_, (field, w) :: _) :: _ => if (nodes.length : Int) + 2 > most then nodes.set num.toNat (.lst (rows.map (·.1))) else (nodes ++ [Node.pend, Node.pend]).set num.toNat (.ask field w nodes.length (nodes.length + 1))
def growW (most : Int) (nodes : List Node) (wait : List Wait) (rows : List TRow) : List Wait := match rows with
  | [] => wait
  | (_, []) :: _ => wait
  | (_, (field, w) :: _) :: _ => if (nodes.length : Int) + 2 > most then wait else wait ++ [((nodes.length : Int), rowsIfSo rows field w), ((nodes.length : Int) + 1, rowsIfNot rows field w)]
abbrev TF (rl : Value) (most : Int) (tm : Tok) (nl wl : Addr) : List (Str × Value) := [(Str.ofString "rules", rl), (Str.ofString "most", .int most tm), (Str.ofString "nodes", .ref nl), (Str.ofString "waiting", .ref wl)]
section
variable {c : Cx} {z : FM}
theorem S.third {y : FM} {L : Addr} {m : Str → Option Value} {p q r : Addr × Obj} {ls : List (Addr × Obj)} {s : Shared} (h : S c z y L m (p :: q :: r :: ls) s) : S c z y L m (r :: p :: q :: ls) s :=
  h.perm ((List.Perm.swap p r (q :: ls)).trans ((List.Perm.swap q r ls).cons p))
theorem spec_put_waiting (ok : c.Ok) {x dx nl wl : Addr} {od : Obj} {rl : Value} {most : Int} {tm : Tok} {ns ws : List Value} {n1 n2 : Nat} {rv : Value} {rows : List TRow} (hx : z x = some (instObj 231 dx)) (hF : FieldsO od (TF rl most tm nl wl))
    (hrv : TRows z rv rows) (hn : ns.length ≤ 1000) (hw : ws.length ≤ 1000) :
    Fn c 1 z 214 [.ref x, rv] [] [(dx, od), (nl, lstO ns n1), (wl, lstO ws n2)] (fun z' r ls => ∃ n1' n2' wv t, r = .int ns.length t ∧ ls = [(dx, od), (nl, lstO (ns ++ [.none]) n1'), (wl, lstO (ws ++ [wv]) n2')] ∧ WaitAt z' wv (ns.length, rows)) := by
  refine Fn.plain (binds := [(Str.ofString "self", .ref x), (Str.ofString "rows", rv)]) ok (by k_is) (by k_is) (fun _ _ => BindsTo.of_eq rfl) (locs rfl) (by decide) rfl rfl rfl ?_
  intro A y L s R hS
  have hh := R.1
  dsimp only [updsOf] at hS
  repeat' walk_at "z"
  refine zAppend (S.second (by assumption)) ?_ (by omega)
  intro s1 hS1
  repeat' walk_at "z"
  refine zLenL (by assumption) (by walk_at "zg") (by rw [List.length_append]; simp; omega) ?_
  intro t1 s2 hS2 _
  repeat' walk_at "z"
  refine zNewT (by assumption) ?_
  intro t z1 s3 hz1 ht hS3
  repeat' walk_at "z"
  refine zAppend (S.third (by assumption)) ?_ (by omega)
  intro s4 hS4
  repeat' walk_at "z"
  refine zLenL (by assumption) (by walk_at "zg") (by rw [List.length_append]; simp; omega) ?_
  intro t2 s5 hS5 _
  repeat' walk_at "z"
  have e : ((ns ++ [Value.none]).length : Int) - 1 = ns.length := by rw [List.length_append]; simp
  rw [e] at ht
  exact ⟨z1, _, _, hz1, ⟨_, _, .ref t, _, congrArg (fun i => Value.int i _) e, rfl, t, _, rv, rfl, ht, hrv.mono hz1⟩, S.second (S.rot3 (by assumption))⟩
end
theorem all2_set {α : Type} {R : Value → α → Prop} {vs : List Value} {as : List α} (t : All2 R vs as) {v : Value} {a : α} (h : R v a) : ∀ i : Nat, All2 R (vs.set i v) (as.set i a) := by
  induction t with
  | nil => intro i; exact .nil
  | cons x _ ih =>
    intro i
    cases i with
    | zero => exact .cons h ‹_›
    | succ i => exact .cons x (ih i)
theorem All2.app {α : Type} {R : Value → α → Prop} {vs vs' : List Value} {as as' : List α} (t : All2 R vs as) (t' : All2 R vs' as') : All2 R (vs ++ vs') (as ++ as') := by
  induction t with
  | nil => exact t'
  | cons x _ ih => exact .cons x ih
theorem ints_snoc {vs : List Value} {ns : List Int} (h : IntsAre vs ns) {k : Int} {t : Tok} : IntsAre (vs ++ [.int k t]) (ns ++ [k]) := by
  induction h with
  | nil => exact .cons k t .nil
  | cons n t' _ ih => exact .cons n t' ih
section
variable {c : Cx} {z : FM}
def GrowOut (c : Cx) (dx nl wl : Addr) (od : Obj) (nodes : List Node) (wait : List Wait) (z' : FM) (r : Value) (ls : List (Addr × Obj)) : Prop :=
  ∃ ns ws n1 n2, ls = [(dx, od), (nl, lstO ns n1), (wl, lstO ws n2)] ∧ All2 (NodeAt z') ns nodes ∧ All2 (WaitAt z') ws wait
theorem spec_grow (ok : c.Ok) {x dx nl wl : Addr} {od : Obj} {rl : Value} {most : Int} {tm : Tok} {ns ws : List Value} {n1 n2 : Nat} {wv : Value} {nodes : List Node} {wait : List Wait} {num : Int} {rows : List TRow} (hx : z x = some (instObj 231 dx)) (hF : FieldsO od (TF rl most tm nl wl))
    (hns : All2 (NodeAt z) ns nodes) (hws : All2 (WaitAt z) ws wait) (hwv : WaitAt z wv (num, rows)) (h0 : 0 ≤ num) (h1 : num < nodes.length) (hn : nodes.length ≤ 900) (hw : wait.length ≤ 900) (hr : RowsOk rows) :
    Fn c 5 z 207 [.ref x] [] [(dx, od), (nl, lstO ns n1), (wl, lstO (ws ++ [wv]) n2)] (fun z' r ls => r = .none ∧ GrowOut c dx nl wl od (growN most nodes num rows) (growW most nodes wait rows) z' r ls) := by
  obtain ⟨wp, tn, rv, rfl, hwp, l, rvs, nr, rfl, hl, hrvs⟩ := hwv
  have hrl := hrvs.length
  refine Fn.plain (binds := [(Str.ofString "self", .ref x)]) ok (by k_is) (by k_is) (fun _ _ => BindsTo.of_eq rfl) (locs rfl) (by decide) rfl rfl rfl ?_
  intro A y L s R hS
  have hh := R.1
  have hu : A.units < cLine := by have := R.2.2; omega
  have hnl := hns.length
  have hwl := hws.length
  dsimp only [updsOf] at hS
  repeat' walk_at "z"
  refine zPop (S.third (by assumption)) ?_ (by omega)
  intro n3 s1 hS1
  repeat' walk_at "z"
  refine zNewL (by assumption) ?_
  intro be s2 hS2
  repeat' walk_at "z"
  refine zEqNil (by walk_at "zg") (by walk_at "zg") hu ?_
  repeat' walk_at "z"
  have hS3 := S.drop hS2
  clear hS2
  refine zIte ?_ ?_ <;> intro hb1
  · -- no rows
    have : rvs = [] := by simpa using hb1
    subst this
    have : rows = [] := List.eq_nil_of_length_eq_zero (by rw [← hrl]; rfl)
    subst this
    repeat' walk_at "z"
    refine zNewT (by assumption) ?_
    intro t z1 s3 hz1 ht hS4
    repeat' walk_at "z"
    refine zSetItemL (S.third (by assumption)) h0 (by omega) (by omega) ?_
    intro s4 hS5
    repeat' walk_at "z"
    exact ⟨z1, _, _, hz1, ⟨rfl, _, _, _, _, rfl, all2_set (hns.imp fun _ _ x => x.mono hz1) ⟨t, _, rfl, ht⟩ _, hws.imp fun _ _ x => x.mono hz1⟩, S.third (by assumption)⟩
  · obtain ⟨⟨place, asked⟩, rows0, hrows⟩ : ∃ row0 rows0, rows = row0 :: rows0 := by
      cases rows with
      | nil => rw [List.eq_nil_of_length_eq_zero hrl] at hb1; cases hb1
      | cons a b => exact ⟨a, b, rfl⟩
    have hr0 : rows[0]? = some (place, asked) := by rw [hrows]; rfl
    obtain ⟨v0, hv0, hra⟩ := hrvs.at hr0
    obtain ⟨p0, t0, av, rfl, hp0, lt, pvs, rfl, hlt, hps⟩ := hra
    have hpl := hps.length
    have hrow := hr.2 _ (List.mem_of_getElem? hr0)
    repeat' walk_at "z"
    refine zItemL (by walk_at "zg") (by decide) (by decide) hv0 ?_
    repeat' walk_at "z"
    refine zNewT (by assumption) ?_
    intro te z1 s3 hz1 hte hS4
    repeat' walk_at "z"
    refine zEqNilT (by walk_at "zg") (by walk_at "zg") hu ?_
    repeat' walk_at "z"
    refine zIte ?_ ?_ <;> intro hb2
    · have hask : asked = [] := List.eq_nil_of_length_eq_zero (by rw [← hpl]; simpa using hb2)
      have eN : growN most nodes num rows = nodes.set num.toNat (.leaf (some place)) := by rw [hrows, hask]; rfl
      have eW : growW most nodes wait rows = wait := by rw [hrows, hask]; rfl
      rw [eN, eW]
      repeat' walk_at "z"
      refine zNewT (by assumption) ?_
      intro t z2 s4 hz2 ht hS5
      repeat' walk_at "z"
      refine zSetItemL (S.third (by assumption)) h0 (by omega) (by omega) ?_
      intro s5 hS6
      repeat' walk_at "z"
      exact ⟨z2, _, _, hz1.trans hz2, ⟨rfl, _, _, _, _, rfl, all2_set (hns.imp fun _ _ x => x.mono (hz1.trans hz2)) ⟨t, _, _, rfl, ht⟩ _, hws.imp fun _ _ x => x.mono (hz1.trans hz2)⟩, S.third (by assumption)⟩
    · obtain ⟨⟨field, w⟩, asked0, hask⟩ : ∃ a0 r0, asked = a0 :: r0 := by
        cases asked with
        | nil => rw [List.eq_nil_of_length_eq_zero hpl] at hb2; cases hb2
        | cons a b => exact ⟨a, b, rfl⟩
      have ha0 : asked[0]? = some (field, w) := by rw [hask]; rfl
      obtain ⟨v1, hv1, hpa⟩ := hps.at ha0
      obtain ⟨p1, t1, wv, rfl, hp1, hwv⟩ := hpa.mono hz1
      have hg := hrow.2 _ (List.mem_of_getElem? ha0)
      repeat' walk_at "z"
      refine zLenL (by assumption) (by walk_at "zg") (by omega) ?_
      intro t2 s4 hS5 _
      repeat' walk_at "z"
      refine zIte ?_ ?_ <;> intro hb3
      · have hgt : (nodes.length : Int) + 2 > most := by rw [← hnl]; simpa using hb3
        have eN : growN most nodes num rows = nodes.set num.toNat (.lst (rows.map (·.1))) := by
          rw [hrows, hask]; show (if _ then _ else _) = _; rw [if_pos hgt]
        have eW : growW most nodes wait rows = wait := by
          rw [hrows, hask]; show (if _ then _ else _) = _; rw [if_pos hgt]
        rw [eN, eW]
        repeat' walk_at "z"
        refine zListComp (cl := []) rfl rfl (by decide) ?_
        repeat' walk_at "z"
        refine zIterList (by assumption) (by walk_at "zz") ?_
        intro I o s5 st hS6
        refine comp_go (Itr.list (z := z1) (hz1 _ _ hl)) hh hS6 st (by decide) rfl (by rw [hrl]; exact Nat.le_trans hr.1 (by decide))
          (fun i z3 m3 ls3 acc => ls3 = [(wl, lstO ws n3), (dx, od), (nl, lstO ns n1)] ∧ IntsAre acc ((rows.take i).map (·.1))) ⟨rfl, .nil⟩ ?_ ?_
        · rintro C i v z3 y3 m3 ls3 s6 acc hi hv hz3 ⟨rfl, hacc⟩ hS7
          obtain ⟨⟨pl, ws'⟩, hri, hra⟩ := hrvs.get hv
          obtain ⟨p3, t3, av3, rfl, hp3, -⟩ := hra.mono (hz1.trans hz3)
          repeat' walk_at "z"
          exact ⟨z3, _, _, FM.le.refl z3, by assumption, rfl, by rw [take_snoc hri, List.map_append]; exact ints_snoc hacc⟩
        · rintro D2 C k z3 m3 mC ls3 s6 oC acc hz3 ⟨rfl, hacc⟩ yC hC hS7
          refine comp_ret hC hS7 yC fun s7 hS8 => ?_
          rw [hrl, List.take_length] at hacc
          have hal : acc.length = rows.length := by have := hacc.length; rwa [List.length_map] at this
          clear hS6 hS7
          repeat' walk_at "z"
          refine zTupleOf (by assumption) (by walk_at "zg") (by have := hr.1; omega) ?_
          intro T z4 s8 hz4 hT hS9
          repeat' walk_at "z"
          refine zNewT (by assumption) ?_
          intro t z5 s9 hz5 ht hS10
          have hS11 := S.drop hS10
          clear hS10 hS9
          repeat' walk_at "z"
          refine zSetItemL (S.third (by assumption)) h0 (by omega) (by omega) ?_
          intro s10 hS12
          repeat' walk_at "z"
          have hzz := ((hz1.trans hz3).trans hz4).trans hz5
          exact ⟨z5, _, _, hzz, ⟨rfl, _, _, _, _, rfl, all2_set (hns.imp fun _ _ x => x.mono hzz) ⟨t, _, T, acc, rfl, ht, hz5 _ _ hT, hacc⟩ _, hws.imp fun _ _ x => x.mono hzz⟩, S.third (by assumption)⟩
      · have hgt : ¬ (nodes.length : Int) + 2 > most := by rw [← hnl]; simpa using hb3
        have eN : growN most nodes num rows = (nodes ++ [Node.pend, Node.pend]).set num.toNat (.ask field w nodes.length (nodes.length + 1)) := by
          rw [hrows, hask]; show (if _ then _ else _) = _; rw [if_neg hgt]
        have eW : growW most nodes wait rows = wait ++ [((nodes.length : Int), rowsIfSo rows field w), ((nodes.length : Int) + 1, rowsIfNot rows field w)] := by
          rw [hrows, hask]; show (if _ then _ else _) = _; rw [if_neg hgt, ← hask, ← hrows]
        rw [eN, eW]
        repeat' walk_at "z"
        refine zItemT (by assumption) (by walk_at "zz") hv1 ?_
        repeat' walk_at "z"
        have hfl : TRows z1 (.ref l) rows := ⟨l, rvs, nr, rfl, hz1 _ _ hl, hrvs.imp fun _ _ x => x.mono hz1⟩
        refine zFn (ls0 := []) (spec_rows_if_so ok hfl hg.1 hwv hg.2.2 hr.2 hr.1) R (by assumption) ?_
        rintro r z2 ls2 s5 hz2 ⟨rfl, hso⟩ hS6
        repeat' walk_at "z"
        refine zFn (ls0 := [(dx, od), (nl, lstO ns n1), (wl, lstO ws n3)]) (rest := []) (spec_put_waiting ok (by walk_at "zz") hF hso (by omega) (by omega)) (R.le (by decide)) (S.rot3 (by assumption)) ?_
        rintro r1 z3 ls3 s6 hz3 ⟨m1, m2, wv1, ty, rfl, rfl, hw1⟩ hS7
        repeat' walk_at "z"
        refine zFn (ls0 := []) (spec_rows_if_not ok ((hfl.mono hz2).mono hz3) hg.1 ((hwv.mono hz2).mono hz3) hg.2.2 hr.2 hr.1) R (by assumption) ?_
        rintro r z4 ls4 s7 hz4 ⟨rfl, hnot⟩ hS8
        repeat' walk_at "z"
        refine zFn (ls0 := [(dx, od), (nl, lstO (ns ++ [.none]) m1), (wl, lstO (ws ++ [wv1]) m2)]) (rest := []) (spec_put_waiting ok (by walk_at "zz") hF hnot (by rw [List.length_append]; simp; omega) (by rw [List.length_append]; simp; omega)) (R.le (by decide)) (by assumption) ?_
        rintro r2 z5 ls5 s8 hz5 ⟨m3, m4, wv2, tno, rfl, rfl, hw2⟩ hS9
        repeat' walk_at "z"
        refine zNewT (by assumption) ?_
        intro t z6 s9 hz6 ht hS10
        repeat' walk_at "z"
        refine zSetItemL (S.second (by assumption)) h0 (by omega) (by simp; omega) ?_
        intro s10 hS11
        repeat' walk_at "z"
        have h26 := ((hz3.trans hz4).trans hz5).trans hz6
        have h16 := hz2.trans h26
        have h06 := hz1.trans h16
        have e1 : ((ns ++ [Value.none]).length : Int) = nodes.length + 1 := by rw [List.length_append, hnl]; simp
        rw [e1] at ht hw2
        rw [hnl] at ht hw1
        have eL : (ns ++ [Value.none]) ++ [Value.none] = ns ++ [.none, .none] := by simp
        have eW2 : (ws ++ [wv1]) ++ [wv2] = ws ++ [wv1, wv2] := by simp
        have hA := all2_set ((hns.imp fun _ _ x => x.mono h06).app (.cons (a := Node.pend) (v := .none) rfl (.cons (a := Node.pend) (v := .none) rfl .nil))) (a := .ask field w nodes.length (nodes.length + 1)) (v := .ref t) ⟨t, _, _, wv, _, _, rfl, ht, hwv.mono h16⟩ num.toNat
        rw [← eL] at hA
        have hB := (hws.imp fun _ _ x => x.mono h06).app (.cons (hw1.mono ((hz4.trans hz5).trans hz6)) (.cons (hw2.mono hz6) .nil))
        rw [← eW2] at hB
        exact ⟨z6, _, _, h06, ⟨rfl, _, _, _, _, rfl, hA, hB⟩, S.second (by assumption)⟩
end
inductive Reach (most : Int) (rs : List RuleG) : List Node → List Wait → Prop
  | init : Reach most rs [.pend] [(0, openRows rs)]
  | step {nodes wait num rows} : Reach most rs nodes (wait ++ [(num, rows)]) → Reach most rs (growN most nodes num rows) (growW most nodes wait rows)
theorem RowsOk.opened {rs : List RuleG} (h : ∀ r ∈ rs, r.Ok) (hn : rs.length ≤ 100) : RowsOk (openRows rs) := by
  refine ⟨by rw [openRows_length]; exact hn, fun r hr => ?_⟩
  obtain ⟨i, hi⟩ := List.mem_iff_getElem?.mp hr
  have hl : i < rs.length := by
    rcases Nat.lt_or_ge i rs.length with q | q
    · exact q
    · rw [List.getElem?_eq_none (by rw [openRows_length]; exact q)] at hi; cases hi
  have e := openRows_at (rs := rs) (i := i) (r := rs[i]) (by simp [hl])
  rw [e] at hi
  cases hi
  have := h rs[i] (List.getElem_mem hl)
  exact ⟨this.2.2, this.2.1⟩
theorem RowsOk.so {rows : List TRow} {field : Int} {w : Wish} (h : RowsOk rows) : RowsOk (rowsIfSo rows field w) := by
  refine ⟨Nat.le_trans (List.length_filterMap_le _ _) h.1, fun r hr => ?_⟩
  obtain ⟨a, ha, e⟩ := List.mem_filterMap.mp hr
  unfold soRow at e
  split at e
  · cases e
    have := h.2 a ha
    exact ⟨Nat.le_trans (List.length_filter_le _ _) this.1, fun p hp => this.2 p (List.mem_filter.mp hp).1⟩
  · cases e
theorem RowsOk.no {rows : List TRow} {field : Int} {w : Wish} (h : RowsOk rows) : RowsOk (rowsIfNot rows field w) :=
  ⟨Nat.le_trans (List.length_filter_le _ _) h.1, fun r hr => h.2 r (List.mem_filter.mp hr).1⟩
structure TreeInv (most : Int) (nodes : List Node) (wait : List Wait) : Prop where
  one : 1 ≤ nodes.length
  most : (nodes.length : Int) ≤ max 1 most
  wl : wait.length ≤ nodes.length
  wok : ∀ w ∈ wait, 0 ≤ w.1 ∧ w.1 < nodes.length ∧ RowsOk w.2
theorem Reach.inv {most : Int} {rs : List RuleG} (hr : ∀ r ∈ rs, r.Ok) (hn : rs.length ≤ 100) {nodes : List Node} {wait : List Wait} (h : Reach most rs nodes wait) : TreeInv most nodes wait := by
  induction h with
  | init => exact ⟨by simp, by simp; omega, by simp, fun w hw => by
      rw [List.mem_singleton.mp hw]; exact ⟨by simp, by simp, RowsOk.opened hr hn⟩⟩
  | @step nodes wait num rows _ ih =>
    obtain ⟨a1, a2, a3, a4⟩ := ih
    rw [List.length_append, List.length_singleton] at a3
    have old : ∀ w ∈ wait, 0 ≤ w.1 ∧ w.1 < (nodes.length : Int) ∧ RowsOk w.2 := fun w hw => a4 w (List.mem_append_left _ hw)
    have own := a4 (num, rows) (by simp)
    unfold growN growW
    match rows, own with
    | [], own => exact ⟨by simpa using a1, by simpa using a2, by simp; omega, fun w hw => by simpa using old w hw⟩
    | (place, []) :: _, own => exact ⟨by simpa using a1, by simpa using a2, by simp; omega, fun w hw => by simpa using old w hw⟩
    | (place, (field, w) :: ws) :: rest, own =>
      simp only
      split
      · exact ⟨by simpa using a1, by simpa using a2, by simp; omega, fun w hw => by simpa using old w hw⟩
      · rename_i q
        refine ⟨by simp <;> omega, by simp <;> omega, by simp <;> omega, fun w' hw => ?_⟩
        simp only [List.length_set, List.length_append, List.length_cons, List.length_nil]
        rcases List.mem_append.mp hw with hw | hw
        · have := old w' hw; exact ⟨this.1, by have := this.2.1; omega, this.2.2⟩
        · rcases List.mem_cons.mp hw with rfl | hw
          · exact ⟨by simp <;> omega, by simp <;> omega, own.2.2.so⟩
          · rw [List.mem_singleton.mp hw]; exact ⟨by simp <;> omega, by simp <;> omega, own.2.2.no⟩
def TreeAt (c : Cx) (z : FM) (v : Value) (rs : List RuleG) (nodes : List Node) : Prop :=
  ∃ x dx od rl most tm nl wl ns n1, v = .ref x ∧ z x = some (instObj 231 dx) ∧ z dx = some od ∧ FieldsO od (TF rl most tm nl wl) ∧ RulesAt c z rl rs ∧ z nl = some (lstO ns n1) ∧ All2 (NodeAt z) ns nodes
theorem TreeAt.mono {c : Cx} {z z' : FM} (h : FM.le z z') {v : Value} {rs : List RuleG} {nodes : List Node} : TreeAt c z v rs nodes → TreeAt c z' v rs nodes :=
  fun ⟨x, dx, od, rl, most, tm, nl, wl, ns, n1, a1, a2, a3, a4, a5, a6, a7⟩ => ⟨x, dx, od, rl, most, tm, nl, wl, ns, n1, a1, h _ _ a2, h _ _ a3, a4, a5.mono h, h _ _ a6, a7.imp fun _ _ x => x.mono h⟩
theorem grow_less {most : Int} {nodes : List Node} {wait : List Wait} {num : Int} {rows : List TRow} :
    (most - (growN most nodes num rows).length).toNat + (growW most nodes wait rows).length < (most - nodes.length).toNat + (wait ++ [(num, rows)]).length := by
  unfold growN growW
  rw [List.length_append, List.length_singleton]
  match rows with
  | [] => simp
  | (place, []) :: _ => simp
  | (place, (field, w) :: ws) :: rest =>
    simp only
    split
    · simp
    · simp; omega
theorem All2.unsnoc {α : Type} {R : Value → α → Prop} {vs : List Value} {as : List α} (t : All2 R vs as) (h : vs ≠ []) : ∃ vs0 v as0 a, vs = vs0 ++ [v] ∧ as = as0 ++ [a] ∧ All2 R vs0 as0 ∧ R v a := by
  induction t with
  | nil => exact absurd rfl h
  | @cons v a vs as x r ih =>
    cases r with
    | nil => exact ⟨[], v, [], a, rfl, rfl, .nil, x⟩
    | cons y q =>
      obtain ⟨vs0, v', as0, a', e1, e2, r', x'⟩ := ih (by simp)
      exact ⟨v :: vs0, v', a :: as0, a', by rw [e1]; rfl, by rw [e2]; rfl, .cons x r', x'⟩
section
variable {c : Cx} {z : FM}
theorem spec_init_tree (ok : c.Ok) {x dx : Addr} {rv : Value} {rs : List RuleG} {most : Int} {tm : Tok} (hx : z x = some (instObj 231 dx)) (hrv : RulesAt c z rv rs) (hr : ∀ r ∈ rs, r.Ok) (hn : rs.length ≤ 100) (hm : most ≤ 256) :
    Fn c 6 z 202 [.ref x, rv, .int most tm] [] [(dx, emptyDict)] (fun z' r ls => r = .none ∧ ls = [] ∧ ∃ nodes, Reach most rs nodes [] ∧ TreeAt c z' (.ref x) rs nodes) := by
  obtain ⟨l, vs, n, rfl, hl, hvs⟩ := hrv
  have hlen := hvs.length
  refine Fn.plain (binds := [(Str.ofString "self", .ref x), (Str.ofString "rules", .ref l), (Str.ofString "most", .int most tm)]) ok (by k_is) (by k_is) (fun s hK => BindsTo.of_defaults (T := 195) rfl (hK 195 _ (by k_is)) rfl (by rfl) (by rfl)) (locs rfl) (by decide) rfl rfl rfl ?_
  intro A y L s R hS
  have hh := R.1
  have hu : A.units < cLine := by have := R.2.2; omega
  dsimp only [updsOf] at hS
  repeat' walk_at "z"
  refine zListOf (by assumption) (by walk_at "zg") (by omega) ?_
  intro D n' s1 hS1
  have hz1 := S.le_freeze hS1
  have hS2 := S.freeze hS1
  obtain ⟨z1, hz1', hD⟩ : ∃ z1, z1 = z.put D (lstO vs n') ∧ z1 D = some (lstO vs n') := ⟨_, rfl, FM.put_self⟩
  rw [← hz1'] at hS2 hz1
  clear hS1
  have hrl : RulesAt c z1 (.ref D) rs := ⟨D, vs, n', rfl, hD, hvs.imp fun _ _ x => x.mono hz1⟩
  repeat' walk_at "z"
  refine zSetA ok (by assumption) (by walk_at "zz") ⟨[], 0, rfl, .nil⟩ (by decide) (by k_is) (by k_is) (by k_is) (by k_is) ?_
  intro o1 s3 hF1 hS3
  have hF1 := hF1.cast (show _ = [(Str.ofString "rules", .ref D)] from rfl)
  repeat' walk_at "z"
  refine zSetA ok (by assumption) (by walk_at "zz") hF1 (by simp) (by k_is) (by k_is) (by k_is) (by k_is) ?_
  intro o2 s4 hF2 hS4
  have hF2 := hF2.cast (show _ = [(Str.ofString "rules", .ref D), (Str.ofString "most", .int most tm)] from rfl)
  repeat' walk_at "z"
  refine zNewL (by assumption) ?_
  intro nl s5 hS5
  repeat' walk_at "z"
  refine zSetA ok (S.second (by assumption)) (by walk_at "zz") hF2 (by simp) (by k_is) (by k_is) (by k_is) (by k_is) ?_
  intro o3 s6 hF3 hS6
  have hF3 := hF3.cast (show _ = [(Str.ofString "rules", .ref D), (Str.ofString "most", .int most tm), (Str.ofString "nodes", .ref nl)] from rfl)
  clear hF1 hF2
  repeat' walk_at "z"
  refine zFn (ls0 := []) (spec_open_rows ok hrl hr hn) (R.le (by decide)) (by assumption) ?_
  rintro r z2 ls2 s7 hz2 ⟨rfl, hrows⟩ hS7
  repeat' walk_at "z"
  refine zNewT (by assumption) ?_
  intro wp z3 s8 hz3 hwp hS8
  repeat' walk_at "z"
  refine zNewL (by assumption) ?_
  intro wl s9 hS9
  repeat' walk_at "z"
  refine zSetA ok (S.second (by assumption)) (by walk_at "zz") hF3 (by simp) (by k_is) (by k_is) (by k_is) (by k_is) ?_
  intro o4 s10 hF4 hS10
  have hF4 := hF4.cast (show _ = TF (.ref D) most tm nl wl from rfl)
  clear hF3
  have hS11 : S c z3 y L _ [(dx, o4), (nl, lstO [.none] 0), (wl, lstO [.ref wp] 0)] s10 := S.second (S.third hS10)
  clear hS10
  refine zWhile (fun k z4 m4 ls4 => m4 (Str.ofString "self") = some (.ref x) ∧ ∃ nodes wait ns ws n1 n2, Reach most rs nodes wait ∧ k = (most - nodes.length).toNat + wait.length ∧
      ls4 = [(dx, o4), (nl, lstO ns n1), (wl, lstO ws n2)] ∧ All2 (NodeAt z4) ns nodes ∧ All2 (WaitAt z4) ws wait) _ hS11
    ⟨by walk_at "lk", [.pend], [(0, openRows rs)], _, _, _, _, .init, rfl, rfl, .cons rfl .nil, .cons ⟨wp, _, _, rfl, hwp, hrows.mono hz3⟩ .nil⟩ ?_
  clear hS11
  rintro k z4 m4 ls4 s11 hz4 ⟨e1, nodes, wait, ns, ws, n1, n2, hR, rfl, rfl, hns, hws⟩ hS12
  have hinv := hR.inv hr hn
  have hnl := hns.length
  have hwl := hws.length
  repeat' walk_at "z"
  refine zNewL (by assumption) ?_
  intro be s12 hS13
  repeat' walk_at "z"
  refine zNeNil (by walk_at "zg") (by walk_at "zg") hu ?_
  repeat' walk_at "z"
  have hS14 := S.drop hS13
  clear hS13
  refine zIte ?_ ?_ <;> intro hb
  · have hne : ws ≠ [] := by intro e; rw [e] at hb; cases hb
    obtain ⟨ws0, wv, wait0, ⟨num, rows⟩, ews, ewait, hws0, hwv⟩ := hws.unsnoc hne
    have hw := hinv.wok (num, rows) (by rw [ewait]; simp)
    have hnn := hinv.most
    have hwn := hinv.wl
    rw [ewait, List.length_append, List.length_singleton] at hwn
    rw [ews] at hS14
    repeat' walk_at "z"
    refine zFn (ls0 := [(dx, o4), (nl, lstO ns n1), (wl, lstO (ws0 ++ [wv]) n2)]) (rest := []) (spec_grow (most := most) (tm := tm) (rl := .ref D) ok (by walk_at "zz") hF4 hns hws0 hwv hw.1 hw.2.1 (by omega) (by omega) hw.2.2) R hS14 ?_
    rintro r z5 ls5 s13 hz5 ⟨rfl, ns', ws', n1', n2', rfl, hns', hws'⟩ hS15
    repeat' walk_at "z"
    refine ⟨_, z5, _, _, ?_, hz4.trans hz5, by assumption, e1, _, _, ns', ws', n1', n2', Reach.step (ewait ▸ hR), rfl, rfl, hns', hws'⟩
    rw [ewait]
    exact grow_less
  · have hwe : ws = [] := by simpa using hb
    have hwt : wait = [] := List.eq_nil_of_length_eq_zero (by rw [← hwl, hwe]; rfl)
    rw [hwt] at hR
    repeat' walk_at "z"
    have h1 := S.le_freeze hS14
    have hS15 := S.freeze hS14
    have h2 := S.le_freeze hS15
    have hzz := (((hz1.trans hz2).trans hz3).trans hz4).trans (h1.trans h2)
    exact ⟨_, [], _, hzz, ⟨rfl, rfl, nodes, hR, x, dx, o4, .ref D, most, tm, nl, wl, ns, n1, rfl, hzz _ _ hx, h2 _ _ FM.put_self, hF4, hrl.mono (((hz2.trans hz3).trans hz4).trans (h1.trans h2)), FM.put_self, hns.imp fun _ _ x => x.mono (h1.trans h2)⟩, S.drop (S.freeze hS15)⟩
end
def NodesOk (rs : List RuleG) (nodes : List Node) : Prop := ∀ (i : Nat) (nd : Node), nodes[i]? = some nd → match nd with
  | .pend => False
  | .leaf _ => True
  | .lst ps => ∀ p ∈ ps, 0 ≤ p ∧ p < rs.length
  | .ask f w y n => Place f ∧ (i : Int) < y ∧ y < nodes.length ∧ (i : Int) < n ∧ n < nodes.length
def hitAt (rs : List RuleG) (key : List Int) (p : Int) : Bool := match rs[p.toNat]? with | some r => r.hit key | none => false
def lookRes (rs : List RuleG) (nodes : List Node) (key : List Int) : Nat → Nat → Option Int
  | 0, _ => none
  | k + 1, i => match nodes[i]? with
    | some (.ask f w y n) => lookRes rs nodes key k (if w.holds (fld key f) then y.toNat else n.toNat)
    | some (.leaf p) => p
    | some (.lst ps) => ps.find? (hitAt rs key)
    | _ => none
def OptAt (v : Value) : Option Int → Prop
  | none => v = .none
  | some i => ∃ t, v = .int i t
def LookOut (z : FM) (r : Value) (o : Option Int) : Prop := ∃ p v n t, r = .ref p ∧ z p = some (tupO [v, .int n t]) ∧ OptAt v o
theorem LookOut.mono {z z' : FM} (h : FM.le z z') {r : Value} {o : Option Int} : LookOut z r o → LookOut z' r o := fun ⟨p, v, n, t, a, b, d⟩ => ⟨p, v, n, t, a, h _ _ b, d⟩
theorem find_take {α : Type} {p : α → Bool} {l : List α} {i : Nat} {x : α} (h : (l.take i).find? p = none) (e : l[i]? = some x) (hp : p x = true) : l.find? p = some x := by
  rw [← List.take_append_drop i l, List.find?_append, h]
  have : l.drop i = x :: l.drop (i + 1) := by
    obtain ⟨hi, rfl⟩ := List.getElem?_eq_some_iff.mp e
    exact List.drop_eq_getElem_cons hi
  rw [this]; simp [hp]
section
variable {c : Cx} {z : FM}
theorem spec_look (ok : c.Ok) {v kv : Value} {rs : List RuleG} {nodes : List Node} {key : List Int} (hv : TreeAt c z v rs nodes) (hkv : KeyAt z kv key) (hr : ∀ r ∈ rs, r.Ok) (hN : NodesOk rs nodes) (h0 : 1 ≤ nodes.length) (h1 : nodes.length ≤ 1000) (hrl : rs.length ≤ 100) :
    Fn c 3 z 221 [v, kv] [] [] (fun z' r ls => ls = [] ∧ LookOut z' r (lookRes rs nodes key nodes.length 0)) := by
  obtain ⟨x, dx, od, rl, most, tm, nl, wl, ns, n1, rfl, hx, hdx, hF, ⟨rll, rvs, rn, rfl, hrll, hrvs⟩, hnl, hns⟩ := hv
  have hnlen := hns.length
  have hrlen := hrvs.length
  refine Fn.plain (binds := [(Str.ofString "self", .ref x), (Str.ofString "key", kv)]) ok (by k_is) (by k_is) (fun _ _ => BindsTo.of_eq rfl) (locs rfl) (by decide) rfl rfl rfl ?_
  intro A y L s R hS
  have hh := R.1
  dsimp only [updsOf] at hS
  refine zAssignT2 (names := [Str.ofString "node", Str.ofString "many"]) ?_
  repeat' walk_at "z"
  obtain ⟨nd0, hnd0⟩ : ∃ nd0, nodes[0]? = some nd0 := ⟨nodes[0]'(by omega), by simp⟩
  obtain ⟨v0, hv0, hva0⟩ := hns.at hnd0
  refine zItemL (by walk_at "zg") (by decide) (by decide) hv0 ?_
  repeat' walk_at "z"
  refine zNewT (by assumption) ?_
  intro t z1 s2 hz1 ht hS2
  refine zUnpackItems hS2 ht R.1 rfl ?_
  intro s3 hS3
  clear hS2
  repeat' walk_at "z"
  refine zWhile (fun k z2 m2 ls2 => m2 (Str.ofString "self") = some (.ref x) ∧ m2 (Str.ofString "key") = some kv ∧ ls2 = [] ∧ ∃ i nd v n t, nodes[i]? = some nd ∧ NodeAt z v nd ∧ m2 (Str.ofString "node") = some v ∧ m2 (Str.ofString "many") = some (.int n t) ∧
      lookRes rs nodes key k i = lookRes rs nodes key nodes.length 0 ∧ nodes.length ≤ i + k) nodes.length (by assumption)
    ⟨by walk_at "lk", by walk_at "lk", rfl, 0, nd0, v0, _, _, hnd0, hva0, by walk_at "lk", by walk_at "lk", rfl, by omega⟩ ?_
  rintro k z2 m2 ls2 s4 hz2 ⟨e1, e2, rfl, i, nd, v, n, t2, hnd, hva, e3, e4, hlook, hk⟩ hS4
  have hnok := hN i nd hnd
  have hil : i < nodes.length := by
    rcases Nat.lt_or_ge i nodes.length with q | q
    · exact q
    · rw [List.getElem?_eq_none q] at hnd; cases hnd
  obtain ⟨k, rfl⟩ : ∃ k', k = k' + 1 := ⟨k - 1, by omega⟩
  have hz02 := hz1.trans hz2
  cases nd with
  | pend => exact hnok.elim
  | ask f w yy nn =>
    obtain ⟨hf, hy1, hy2, hn1, hn2⟩ := hnok
    have hl2 : lookRes rs nodes key k (if w.holds (fld key f) then yy.toNat else nn.toNat) = lookRes rs nodes key nodes.length 0 := by
      rw [← hlook, lookRes, hnd]
    obtain ⟨p, t3, t4, wv, t5, t6, rfl, hp, hwv⟩ := hva
    repeat' walk_at "z"
    refine zCut (P := fun v s' => ∃ t z3 m3 t4, v = .int (if w.holds (fld key f) then yy else nn) t ∧ FM.le z2 z3 ∧ S c z3 y L m3 [] s' ∧ m3 (Str.ofString "self") = some (.ref x) ∧ m3 (Str.ofString "key") = some kv ∧ m3 (Str.ofString "many") = some (.int (n + 1) t4)) ?_ ?_
    · refine wpAny_IfExp ?_
      repeat' walk_at "z"
      refine zKeyGet (by assumption) (hkv.mono hz02) hf ?_
      intro t7
      repeat' walk_at "z"
      refine zFn (spec_wish_holds ok (hwv.mono hz02)) (R.le (by decide)) (by assumption) ?_
      rintro _ z3 ls3 s5 hz3 ⟨rfl, rfl⟩ hS5
      repeat' walk_at "z"
      refine zIte ?_ ?_ <;> intro hb
      · repeat' walk_at "z"
        exact ⟨_, z3, _, _, by rw [if_pos hb], hz3, by assumption, by walk_at "lk", by walk_at "lk", by walk_at "lk"⟩
      · repeat' walk_at "z"
        exact ⟨_, z3, _, _, by rw [hb]; rfl, hz3, by assumption, by walk_at "lk", by walk_at "lk", by walk_at "lk"⟩
    rintro _ s5 ⟨t8, z3, m3, t9, rfl, hz3, hS5, g1, g2, g3⟩
    generalize hidx : (if w.holds (fld key f) then yy else nn) = idx
    have hnat : (if w.holds (fld key f) then yy.toNat else nn.toNat) = idx.toNat := by rw [← hidx]; split <;> rfl
    rw [hnat] at hl2
    have hb1 : (i : Int) < idx := by rw [← hidx]; split <;> assumption
    have hb2 : idx < nodes.length := by rw [← hidx]; split <;> assumption
    obtain ⟨nd', hnd'⟩ : ∃ nd', nodes[idx.toNat]? = some nd' := ⟨nodes[idx.toNat]'(by omega), by simp⟩
    obtain ⟨v', hv', hva'⟩ := hns.at hnd'
    refine zItemL (by walk_at "zg") (by omega) (by omega) hv' ?_
    repeat' walk_at "z"
    exact ⟨k, z3, _, [], Nat.lt_succ_self _, hz2.trans hz3, by assumption, by walk_at "lk", by walk_at "lk", rfl, idx.toNat, nd', v', _, _, hnd', hva', by walk_at "lk", by walk_at "lk", hl2, by omega⟩
  | leaf po =>
    have hl2 : lookRes rs nodes key nodes.length 0 = po := by rw [← hlook, lookRes, hnd]
    rw [hl2]
    cases po with
    | none =>
      obtain ⟨p, t3, rfl, hp⟩ := hva
      repeat' walk_at "z"
      refine zNewT (by assumption) ?_
      intro tp z3 s5 hz3 htp hS5
      exact ⟨z3, [], _, hz02.trans hz3, ⟨rfl, tp, _, _, _, rfl, htp, rfl⟩, by assumption⟩
    | some j =>
      obtain ⟨p, t3, t4, rfl, hp⟩ := hva
      repeat' walk_at "z"
      refine zNewT (by assumption) ?_
      intro tp z3 s5 hz3 htp hS5
      exact ⟨z3, [], _, hz02.trans hz3, ⟨rfl, tp, _, _, _, rfl, htp, _, rfl⟩, by assumption⟩
  | lst ps =>
    have hl2 : lookRes rs nodes key nodes.length 0 = ps.find? (hitAt rs key) := by rw [← hlook, lookRes, hnd]
    rw [hl2]
    obtain ⟨p, t3, q, pvs, rfl, hp, hq, hps⟩ := hva
    repeat' walk_at "z"
    refine zForTup (hz02 _ _ hq) hh (by assumption) (fun j z3 m3 ls3 => m3 (Str.ofString "self") = some (.ref x) ∧ m3 (Str.ofString "key") = some kv ∧ (∃ n t, m3 (Str.ofString "many") = some (.int n t)) ∧ ls3 = [] ∧ (ps.take j).find? (hitAt rs key) = none)
      (fun r z3 m3 ls3 => ls3 = [] ∧ LookOut z3 r (ps.find? (hitAt rs key))) ⟨e1, e2, ⟨n, t2, e4⟩, rfl, rfl⟩ ?_ ?_ ?_
    · rintro j pv z3 y3 m3 ls3 s5 hj hpv hz3 ⟨f1, f2, ⟨n3, t5, f3⟩, rfl, hnone⟩ hS5
      obtain ⟨p, tp, hpj, rfl⟩ := ints_get hps hpv
      have hmem := List.mem_of_getElem? hpj
      obtain ⟨b1, b2⟩ := hnok p hmem
      obtain ⟨r, hri⟩ : ∃ r, rs[p.toNat]? = some r := ⟨rs[p.toNat]'(by omega), by simp⟩
      obtain ⟨rv, hrv, hra⟩ := hrvs.at hri
      have hro := hr r (List.mem_of_getElem? hri)
      have hh1 : hitAt rs key p = r.hit key := by unfold hitAt; rw [hri]
      repeat' walk_at "z"
      refine zItemL (l := rll) (by walk_at "zg") b1 (by omega) hrv ?_
      obtain ⟨x2, dx2, od2, wd2, rfl, hx2, hdx2, hF2, hwd2, hact2⟩ := hra.mono (hz02.trans hz3)
      have hra2 : RuleAt c z3 (.ref x2) r := ⟨x2, dx2, od2, wd2, rfl, hx2, hdx2, hF2, hwd2, hact2⟩
      repeat' walk_at "z"
      refine zFn (spec_matches ok hra2 hro (hkv.mono (hz02.trans hz3))) R (by assumption) ?_
      rintro _ z4 ls4 s6 hz4 ⟨rfl, rfl⟩ hS6
      repeat' walk_at "z"
      refine zIte ?_ ?_ <;> intro hb
      · repeat' walk_at "z"
        refine zNewT (by assumption) ?_
        intro tq z5 s7 hz5 htq hS7
        have hfind : ps.find? (hitAt rs key) = some p := by
          have := find_take hnone hpj (by rw [hh1]; exact hb)
          exact this
        exact ⟨z5, _, [], hz4.trans hz5, by assumption, rfl, tq, _, _, _, rfl, htq, by rw [hfind]; exact ⟨tp, rfl⟩⟩
      · repeat' walk_at "z"
        exact ⟨z4, _, [], hz4, by assumption, by walk_at "lk", by walk_at "lk", ⟨_, _, by walk_at "lk"⟩, rfl, by rw [take_snoc hpj, List.find?_append, hnone]; simp [hh1, hb]⟩
    · rintro z3 m3 ls3 s5 hz3 ⟨f1, f2, ⟨n3, t5, f3⟩, rfl, hnone⟩ hS5
      rw [hps.length, List.take_length] at hnone
      repeat' walk_at "z"
      refine zNewT (by assumption) ?_
      intro tq z5 s7 hz5 htq hS7
      exact ⟨z5, [], _, (hz02.trans hz3).trans hz5, ⟨rfl, tq, _, _, _, rfl, htq, by rw [hnone]; rfl⟩, by assumption⟩
    · rintro r z3 m3 ls3 s5 hz3 ⟨rfl, hlo⟩ hS5
      exact ⟨z3, [], _, hz02.trans hz3, ⟨rfl, hlo⟩, by assumption⟩
end
def firstHit (rs : List RuleG) (key : List Int) : Option Nat := rs.findIdx? (·.hit key)
theorem firstHit_some {rs : List RuleG} {key : List Int} {i : Nat} {r : RuleG} (h : ∀ j, j < i → ∀ q, rs[j]? = some q → q.hit key = false) (e : rs[i]? = some r) (hp : r.hit key = true) : firstHit rs key = some i := by
  obtain ⟨hi, rfl⟩ := List.getElem?_eq_some_iff.mp e
  refine List.findIdx?_eq_some_iff_getElem.mpr ⟨hi, hp, fun j hj => ?_⟩
  rw [h j hj _ (List.getElem?_eq_getElem (Nat.lt_trans hj hi))]; simp
theorem firstHit_none {rs : List RuleG} {key : List Int} (h : ∀ j, j < rs.length → ∀ q, rs[j]? = some q → q.hit key = false) : firstHit rs key = none := by
  refine List.findIdx?_eq_none_iff.mpr fun q hq => ?_
  obtain ⟨j, hj⟩ := List.mem_iff_getElem?.mp hq
  exact h j (List.getElem?_eq_some_iff.mp hj).1 q hj
def optI (o : Option Nat) : Option Int := o.map fun (i : Nat) => (i : Int)
abbrev LF (rl ow : Value) (hl : Addr) (missed : Int) (tm : Tok) : List (Str × Value) := [(Str.ofString "rules", rl), (Str.ofString "otherwise", ow), (Str.ofString "hits", .ref hl), (Str.ofString "missed", .int missed tm)]
def LstState (c : Cx) (z : FM) (rs : List RuleG) (ow : Value) (dx hl : Addr) (hits : List Int) (missed : Int) (ls : List (Addr × Obj)) : Prop :=
  ∃ od rl tm hv n, ls = [(dx, od), (hl, lstO hv n)] ∧ FieldsO od (LF rl ow hl missed tm) ∧ RulesAt c z rl rs ∧ IntsAre hv hits
theorem LstState.mono {c : Cx} {z z' : FM} (h : FM.le z z') {rs : List RuleG} {ow : Value} {dx hl : Addr} {hits : List Int} {missed : Int} {ls : List (Addr × Obj)} : LstState c z rs ow dx hl hits missed ls → LstState c z' rs ow dx hl hits missed ls :=
  fun ⟨od, rl, tm, hv, n, a, b, d, e⟩ => ⟨od, rl, tm, hv, n, a, b, d.mono h, e⟩
theorem ints_rep {t : Tok} : ∀ n : Nat, IntsAre (List.replicate n (.int 0 t)) (List.replicate n 0)
  | 0 => .nil
  | n + 1 => .cons 0 t (ints_rep n)
theorem ints_set {vs : List Value} {ns : List Int} (h : IntsAre vs ns) {k : Int} {t : Tok} : ∀ i : Nat, IntsAre (vs.set i (.int k t)) (ns.set i k) := by
  induction h with
  | nil => intro i; exact .nil
  | cons n t' _ ih =>
    intro i
    cases i with
    | zero => exact .cons k t ‹_›
    | succ i => exact .cons n t' (ih i)
def actOf (rs : List RuleG) (ow : Value) (o : Option Nat) : Value := match o with
  | none => ow
  | some i => match rs[i]? with | some r => r.act | none => .none
def bump (hits : List Int) : Option Nat → List Int
  | none => hits
  | some i => hits.set i (hits.getD i 0 + 1)
def bumpM (missed : Int) : Option Nat → Int
  | none => missed + 1
  | some _ => missed
section
variable {c : Cx} {z : FM}
theorem zIAdd {A : Around} {y : FM} {L : Addr} {m : Str → Option Value} {ls : List (Addr × Obj)} {s : Shared} {i j : Int} {t u : Tok} {Q : Value → Shared → Prop} (hS : S c z y L m ls s) (h : ∀ t s', S c z y L m ls s' → Q (.int (i + j) t) s') : W c A (inplaceOp .Add (.int i t) (.int j u)) Q s := wpAny_iadd_int (h _ _ hS.toks)
theorem spec_size (ok : c.Ok) {v : Value} {rs : List RuleG} {nodes : List Node} (hv : TreeAt c z v rs nodes) (h1 : nodes.length ≤ 1000) : Fn c 1 z 228 [v] [] [] (fun z' r ls => ls = [] ∧ ∃ t, r = .int nodes.length t) := by
  obtain ⟨x, dx, od, rl, most, tm, nl, wl, ns, n1, rfl, hx, hdx, hF, -, hnl, hns⟩ := hv
  have hnlen := hns.length
  refine Fn.plain (binds := [(Str.ofString "self", .ref x)]) ok (by k_is) (by k_is) (fun _ _ => BindsTo.of_eq rfl) (locs rfl) (by decide) rfl rfl rfl ?_
  intro A y L s R hS
  dsimp only [updsOf] at hS
  repeat' walk_at "z"
  refine zLenL (by assumption) (by walk_at "zg") (by omega) ?_
  intro t s1 hS1 _
  rw [hnlen]
  exact ⟨z, [], _, FM.le.refl z, ⟨rfl, t, rfl⟩, by assumption⟩
theorem spec_first_match (ok : c.Ok) {v kv : Value} {rs : List RuleG} {key : List Int} (hv : RulesAt c z v rs) (hkv : KeyAt z kv key) (hr : ∀ r ∈ rs, r.Ok) : Fn c 3 z 242 [v, kv] [] [] (fun z' r ls => ls = [] ∧ OptAt r (optI (firstHit rs key))) := by
  obtain ⟨l, vs, n, rfl, hl, hvs⟩ := hv
  have hlen := hvs.length
  refine Fn.plain (binds := [(Str.ofString "rules", .ref l), (Str.ofString "key", kv)]) ok (by k_is) (by k_is) (fun _ _ => BindsTo.of_eq rfl) (locs rfl) (by decide) rfl rfl rfl ?_
  intro A y L s R hS
  have hh := R.1
  dsimp only [updsOf] at hS
  repeat' walk_at "z"
  refine zForEnum hl hh (by assumption) (fun i z2 m2 ls2 => m2 (Str.ofString "key") = some kv ∧ ls2 = [] ∧ ∀ j, j < i → ∀ q, rs[j]? = some q → q.hit key = false)
    (fun r z2 m2 ls2 => ls2 = [] ∧ OptAt r (optI (firstHit rs key))) ⟨by walk_at "lk", rfl, fun j hj => absurd hj (Nat.not_lt_zero _)⟩ ?_ (fun _ _ _ _ _ _ h => h) ?_ ?_
  · rintro i v p tk z1 y1 m1 ls1 s1 hi hvi hz1 hp ⟨e1, rfl, hno⟩ hS1
    obtain ⟨r, hri, hra⟩ := hvs.get hvi
    have hro := hr r (List.mem_of_getElem? hri)
    obtain ⟨x2, dx2, od2, wd2, rfl, hx2, hdx2, hF2, hwd2, hact2⟩ := hra.mono hz1
    have hra2 : RuleAt c z1 (.ref x2) r := ⟨x2, dx2, od2, wd2, rfl, hx2, hdx2, hF2, hwd2, hact2⟩
    repeat' walk_at "z"
    refine zFn (spec_matches ok hra2 hro (hkv.mono hz1)) R (by assumption) ?_
    rintro _ z4 ls4 s6 hz4 ⟨rfl, rfl⟩ hS6
    repeat' walk_at "z"
    refine zIte ?_ ?_ <;> intro hb
    · repeat' walk_at "z"
      exact ⟨z4, _, [], hz4, by assumption, rfl, by rw [firstHit_some hno hri hb]; exact ⟨_, rfl⟩⟩
    · repeat' walk_at "z"
      exact ⟨z4, _, [], hz4, by assumption, by walk_at "lk", rfl, fun j hj q hq => by
        rcases Nat.lt_or_ge j i with h | h
        · exact hno j h q hq
        · have : j = i := by omega
          subst this; rw [hri] at hq; cases hq; exact hb⟩
  · rintro z1 m1 ls1 s1 hz1 ⟨e1, rfl, hno⟩ hS1
    repeat' walk_at "z"
    exact ⟨z1, [], _, hz1, ⟨rfl, by rw [firstHit_none (by rw [← hlen]; exact hno)]; rfl⟩, by assumption⟩
  · rintro r z1 m1 ls1 s1 hz1 ⟨rfl, ho⟩ hS1
    exact ⟨z1, [], _, hz1, ⟨rfl, ho⟩, by assumption⟩
end
section
variable {c : Cx} {z : FM}
theorem spec_init_list (ok : c.Ok) {x dx : Addr} {rv ow : Value} {rs : List RuleG} (hx : z x = some (instObj 281 dx)) (hrv : RulesAt c z rv rs) (hn : rs.length ≤ 64) (how : ∃ o t, ow = .str o t) :
    Fn c 2 z 257 [.ref x, rv, ow] [] [(dx, emptyDict)] (fun z' r ls => r = .none ∧ ∃ hl, LstState c z' rs ow dx hl (List.replicate rs.length 0) 0 ls) := by
  obtain ⟨l, vs, n, rfl, hl, hvs⟩ := hrv
  obtain ⟨o, to, rfl⟩ := how
  have hlen := hvs.length
  refine Fn.plain (binds := [(Str.ofString "self", .ref x), (Str.ofString "rules", .ref l), (Str.ofString "otherwise", .str o to), (Str.ofString "most", .int 64 540)]) ok (by k_is) (by k_is) (fun s hK => BindsTo.of_defaults (T := 250) rfl (hK 250 _ (by k_is)) rfl (by rfl) (by rfl)) (locs rfl) (by decide) rfl rfl rfl ?_
  intro A y L s R hS
  have hh := R.1
  dsimp only [updsOf] at hS
  repeat' walk_at "z"
  refine zLenL (by assumption) (by walk_at "zg") (by omega) ?_
  intro t0 s0 hS0 _
  repeat' walk_at "z"
  refine zIteF (by rw [hlen]; simp; omega) ?_
  repeat' walk_at "z"
  refine zListOf (by assumption) (by walk_at "zg") (by omega) ?_
  intro D n' s1 hS1
  have hz1 := S.le_freeze hS1
  have hS2 := S.freeze hS1
  obtain ⟨z1, hz1', hD⟩ : ∃ z1, z1 = z.put D (lstO vs n') ∧ z1 D = some (lstO vs n') := ⟨_, rfl, FM.put_self⟩
  rw [← hz1'] at hS2 hz1
  clear hS1
  have hrl : RulesAt c z1 (.ref D) rs := ⟨D, vs, n', rfl, hD, hvs.imp fun _ _ x => x.mono hz1⟩
  repeat' walk_at "z"
  refine zSetA ok (by assumption) (by walk_at "zz") ⟨[], 0, rfl, .nil⟩ (by decide) (by k_is) (by k_is) (by k_is) (by k_is) ?_
  intro o1 s3 hF1 hS3
  have hF1 := hF1.cast (show _ = [(Str.ofString "rules", .ref D)] from rfl)
  repeat' walk_at "z"
  refine zSetA ok (by assumption) (by walk_at "zz") hF1 (by simp) (by k_is) (by k_is) (by k_is) (by k_is) ?_
  intro o2 s4 hF2 hS4
  have hF2 := hF2.cast (show _ = [(Str.ofString "rules", .ref D), (Str.ofString "otherwise", .str o to)] from rfl)
  clear hF1
  repeat' walk_at "z"
  refine zNewL (by assumption) ?_
  intro zl s5 hS5
  repeat' walk_at "z"
  refine zLenL (by assumption) (by walk_at "zg") (by omega) ?_
  intro t1 s6 hS6 _
  rw [hlen]
  repeat' walk_at "z"
  refine zMulL (n := rs.length) (by assumption) (by walk_at "zg") (by omega) ?_
  intro hl s7 hS7
  have hS8 := S.second (S.drop (S.second hS7))
  clear hS7
  repeat' walk_at "z"
  refine zSetA ok (by assumption) (by walk_at "zz") hF2 (by simp) (by k_is) (by k_is) (by k_is) (by k_is) ?_
  intro o3 s8 hF3 hS9
  have hF3 := hF3.cast (show _ = [(Str.ofString "rules", .ref D), (Str.ofString "otherwise", .str o to), (Str.ofString "hits", .ref hl)] from rfl)
  clear hF2
  repeat' walk_at "z"
  refine zSetA ok (by assumption) (by walk_at "zz") hF3 (by simp) (by k_is) (by k_is) (by k_is) (by k_is) ?_
  intro o4 s9 hF4 hS10
  have hF4 := hF4.cast (show _ = LF (.ref D) (.str o to) hl 0 _ from rfl)
  repeat' walk_at "z"
  exact ⟨z1, _, _, hz1, ⟨rfl, hl, o4, .ref D, _, _, _, rfl, hF4, hrl, ints_rep _⟩, by assumption⟩
theorem spec_action_at (ok : c.Ok) {x dx hl : Addr} {od : Obj} {rl ow pv : Value} {rs : List RuleG} {missed : Int} {tm : Tok} {p : Option Nat} {ls0 : List (Addr × Obj)} (hx : z x = some (instObj 281 dx)) (hF : FieldsO od (LF rl ow hl missed tm)) (hrl : RulesAt c z rl rs) (how : ∃ o t, ow = .str o t)
    (hp : OptAt pv (optI p)) (hpb : ∀ i, p = some i → i < rs.length) (hn : rs.length ≤ 64) :
    Fn c 1 z 264 [.ref x, pv] [] ((dx, od) :: ls0) (fun z' r ls => ls = (dx, od) :: ls0 ∧ r = actOf rs ow p) := by
  obtain ⟨l, vs, n, rfl, hl, hvs⟩ := hrl
  obtain ⟨o, to, rfl⟩ := how
  have hlen := hvs.length
  refine Fn.plain (binds := [(Str.ofString "self", .ref x), (Str.ofString "place", pv)]) ok (by k_is) (by k_is) (fun _ _ => BindsTo.of_eq rfl) (locs rfl) (by decide) rfl rfl rfl ?_
  intro A y L s R hS
  dsimp only [updsOf] at hS
  walk_at "z"
  refine wpAny_IfExp ?_
  cases p with
  | none =>
    have e : pv = .none := hp
    subst e
    repeat' walk_at "z"
    refine zIsNone1 ?_
    repeat' walk_at "z"
    exact ⟨z, _, _, FM.le.refl z, ⟨rfl, rfl⟩, by assumption⟩
  | some i =>
    obtain ⟨t, rfl⟩ : ∃ t, pv = .int (i : Int) t := hp
    have hi := hpb i rfl
    obtain ⟨r, hri⟩ : ∃ r, rs[i]? = some r := ⟨rs[i], by simp⟩
    obtain ⟨rv, hrv, hra⟩ := hvs.at hri
    obtain ⟨x2, dx2, od2, wd2, rfl, hx2, hdx2, hF2, hwd2, hact2⟩ := hra
    have hact : handedIn r.act = true := by
      rcases hact2 with ⟨t, e⟩ | ⟨t, e⟩ | ⟨p, t1, t2, e, -⟩ <;> rw [e] <;> rfl
    have hres : actOf rs (.str o to) (some i) = r.act := by show (match rs[i]? with | some r => r.act | none => .none) = _; rw [hri]
    rw [hres]
    repeat' walk_at "z"
    refine zIsNone (by simp) ?_
    repeat' walk_at "z"
    refine zItemL (l := l) (by walk_at "zg") (by omega) (by omega) (by simpa using hrv) ?_
    refine zGetA ok (by assumption) hx2 (by walk_at "zg") hF2 (by k_is) (by k_is) (by k_is) (by k_is) (by rfl) hact ?_
    intro s2 hS2 _
    exact ⟨z, _, _, FM.le.refl z, ⟨rfl, rfl⟩, by assumption⟩
end
section
variable {c : Cx} {z : FM}
theorem spec_asked (ok : c.Ok) {x dx hl : Addr} {kv ow : Value} {rs : List RuleG} {hits : List Int} {missed : Int} {key : List Int} {ls0 : List (Addr × Obj)} (hx : z x = some (instObj 281 dx)) (hL : LstState c z rs ow dx hl hits missed ls0) (hkv : KeyAt z kv key) (hr : ∀ r ∈ rs, r.Ok) (hn : rs.length ≤ 64)
    (how : ∃ o t, ow = .str o t) (hh0 : hits.length = rs.length) :
    Fn c 4 z 271 [.ref x, kv] [] ls0 (fun z' r ls => r = actOf rs ow (firstHit rs key) ∧ LstState c z' rs ow dx hl (bump hits (firstHit rs key)) (bumpM missed (firstHit rs key)) ls) := by
  obtain ⟨od, rl, tm, hv, nh, rfl, hF, hrl, hhv⟩ := hL
  obtain ⟨l, vs, n, rfl, hll, hvs⟩ := hrl
  obtain ⟨o, to, rfl⟩ := how
  have hrl : RulesAt c z (.ref l) rs := ⟨l, vs, n, rfl, hll, hvs⟩
  have hhl := hhv.length
  refine Fn.plain (binds := [(Str.ofString "self", .ref x), (Str.ofString "key", kv)]) ok (by k_is) (by k_is) (fun _ _ => BindsTo.of_eq rfl) (locs rfl) (by decide) rfl rfl rfl ?_
  intro A y L s R hS
  have hh := R.1
  dsimp only [updsOf] at hS
  repeat' walk_at "z"
  refine zFn (ls0 := []) (spec_first_match ok hrl hkv hr) R (by assumption) ?_
  rintro pv z1 ls1 s1 hz1 ⟨rfl, hp⟩ hS1
  have hpb : ∀ i, firstHit rs key = some i → i < rs.length := fun i e => (List.findIdx?_eq_some_iff_getElem.mp e).1
  generalize firstHit rs key = p at hp hpb
  cases p with
  | none =>
    have e : pv = .none := hp
    subst e
    repeat' walk_at "z"
    refine zIsNone1 ?_
    repeat' walk_at "z"
    refine zIAdd (by assumption) ?_
    intro t2 s2 hS2
    refine zSetA ok (by assumption) (by walk_at "zz") hF (by simp) (by k_is) (by k_is) (by k_is) (by k_is) ?_
    intro od2 s3 hF2 hS3
    have hF2 := hF2.cast (show _ = LF (.ref l) (.str o to) hl (missed + 1) t2 from rfl)
    repeat' walk_at "z"
    refine zFn (ls0 := [(dx, od2), (hl, lstO hv nh)]) (rest := []) (spec_action_at ok (by walk_at "zz") hF2 (hrl.mono hz1) ⟨o, to, rfl⟩ (p := none) rfl (fun i e => by cases e) hn) (R.le (by decide)) (by assumption) ?_
    rintro r z2 ls2 s4 hz2 ⟨rfl, rfl⟩ hS4
    exact ⟨z2, _, _, hz1.trans hz2, ⟨rfl, od2, _, _, hv, nh, rfl, hF2, hrl.mono (hz1.trans hz2), hhv⟩, hS4⟩
  | some i =>
    obtain ⟨t, rfl⟩ : ∃ t, pv = .int (i : Int) t := hp
    have hi := hpb i rfl
    have hil : i < hits.length := by omega
    obtain ⟨th, hth⟩ := ints_at hhv (show hits[i]? = some (hits.getD i 0) by rw [List.getD_eq_getElem?_getD]; simp [hil])
    repeat' walk_at "z"
    refine zIsNone (by simp) ?_
    repeat' walk_at "z"
    refine zGetItemL (by walk_at "zg") (by omega) (by omega) (by simpa using hth) ?_
    repeat' walk_at "z"
    refine zIAdd (by assumption) ?_
    intro t2 s2 hS2
    refine zSetItemL (S.second (by assumption)) (by omega) (by omega) (by omega) ?_
    intro s3 hS3
    have hS4 := S.second hS3
    clear hS3 hS2
    repeat' walk_at "z"
    refine zFn (ls0 := [(dx, od), (hl, lstO (hv.set i (.int (hits.getD i 0 + 1) t2)) nh)]) (rest := []) (spec_action_at ok (by walk_at "zz") hF (hrl.mono hz1) ⟨o, to, rfl⟩ (p := some i) ⟨_, rfl⟩ (fun j e => by cases e; exact hi) hn) (R.le (by decide)) (by assumption) ?_
    rintro r z2 ls2 s4 hz2 ⟨rfl, rfl⟩ hS5
    exact ⟨z2, _, _, hz1.trans hz2, ⟨rfl, od, _, _, _, nh, rfl, hF, hrl.mono (hz1.trans hz2), ints_set hhv i⟩, hS5⟩
theorem spec_counts (ok : c.Ok) {x dx hl : Addr} {ow : Value} {rs : List RuleG} {hits : List Int} {missed : Int} {ls0 : List (Addr × Obj)} (hx : z x = some (instObj 281 dx)) (hL : LstState c z rs ow dx hl hits missed ls0) (hn : hits.length ≤ 1000) :
    Fn c 1 z 278 [.ref x] [] ls0 (fun z' r ls => ls = ls0 ∧ ∃ p q t vs, r = .ref p ∧ z' p = some (tupO [.ref q, .int missed t]) ∧ z' q = some (tupO vs) ∧ IntsAre vs hits) := by
  obtain ⟨od, rl, tm, hv, nh, rfl, hF, hrl, hhv⟩ := hL
  have hhl := hhv.length
  refine Fn.plain (binds := [(Str.ofString "self", .ref x)]) ok (by k_is) (by k_is) (fun _ _ => BindsTo.of_eq rfl) (locs rfl) (by decide) rfl rfl rfl ?_
  intro A y L s R hS
  dsimp only [updsOf] at hS
  repeat' walk_at "z"
  refine zTupleOf (by assumption) (by walk_at "zg") (by omega) ?_
  intro q z1 s1 hz1 hq hS1
  repeat' walk_at "z"
  refine zNewT (by assumption) ?_
  intro p z2 s2 hz2 hp hS2
  exact ⟨z2, _, _, hz1.trans hz2, ⟨rfl, p, q, _, hv, rfl, hp, hz2 _ _ hq, hhv⟩, hS2⟩
end
def SrcLs (sl : Addr) (ls : List (Addr × Obj)) : Prop := ∃ a b ta tb n, 0 ≤ a ∧ 0 ≤ b ∧ b < 2147483647 ∧ ls = [(sl, lstO [.int a ta, .int b tb] n)]
section
variable {c : Cx} {z : FM}
theorem fm0 (a : Int) {b : Int} (h : 0 < b) : 0 ≤ a.fmod b := Int.fmod_nonneg_of_pos a h
theorem fm1 (a : Int) {b : Int} (h : 0 < b) : a.fmod b < b := Int.fmod_lt_of_pos a h
theorem spec_take (ok : c.Ok) {sl : Addr} {top : Int} {tt : Tok} {ls0 : List (Addr × Obj)} (hs : SrcLs sl ls0) (h1 : 1 ≤ top) (h2 : top ≤ 1000) :
    Fn c 1 z 299 [.ref sl, .int top tt] [] ls0 (fun z' r ls => ∃ d t, r = .int d t ∧ 0 ≤ d ∧ d < top ∧ SrcLs sl ls) := by
  obtain ⟨a, b, ta, tb, n, ha, hb, hb2, rfl⟩ := hs
  refine Fn.plain (binds := [(Str.ofString "source", .ref sl), (Str.ofString "top", .int top tt)]) ok (by k_is) (by k_is) (fun _ _ => BindsTo.of_eq rfl) (locs rfl) (by decide) rfl rfl rfl ?_
  intro A y L s R hS
  have hh := R.1
  dsimp only [updsOf] at hS
  repeat' walk_at "z"
  refine zItemL (l := sl) (by walk_at "zg") (by decide) (by decide) rfl ?_
  repeat' walk_at "z"
  refine zIte ?_ ?_ <;> intro hb0
  · repeat' walk_at "z"
    refine zItemL (l := sl) (by walk_at "zg") (by decide) (by decide) rfl ?_
    repeat' walk_at "z"
    refine zIntI ?_
    repeat' walk_at "z"
    refine zMod (by assumption) (by omega) hh ?_
    intro td _ _
    repeat' walk_at "z"
    refine zItemL (l := sl) (by walk_at "zg") (by decide) (by decide) rfl ?_
    repeat' walk_at "z"
    refine zDiv (by assumption) (by omega) (by omega) hh ?_
    intro tq _ _
    repeat' walk_at "z"
    refine zSetItemL (by assumption) (by decide) (by decide) (by simp) ?_
    intro s2 hS2
    repeat' walk_at "z"
    exact ⟨z, _, _, FM.le.refl z, ⟨_, _, rfl, fm0 _ (by omega), fm1 _ (by omega), a.fdiv top, b, _, tb, n, Int.fdiv_nonneg ha (by omega), hb, hb2, rfl⟩, by assumption⟩
  · repeat' walk_at "z"
    refine zItemL (l := sl) (by walk_at "zg") (by decide) (by decide) rfl ?_
    repeat' walk_at "z"
    refine zMul (by assumption) (IntMulOk.of_right (by decide)) ?_
    intro _ _ _
    repeat' walk_at "z"
    refine zIntI ?_
    repeat' walk_at "z"
    refine zMod (by assumption) (by decide) hh ?_
    intro tm _ _
    repeat' walk_at "z"
    refine zSetItemL (by assumption) (by decide) (by decide) (by simp) ?_
    intro s2 hS2
    have g0 := fm0 (b * 39373 + 7) (b := 2147483647) (by decide)
    have g1 := fm1 (b * 39373 + 7) (b := 2147483647) (by decide)
    generalize (b * 39373 + 7).fmod 2147483647 = b' at hS2 g0 g1
    repeat' walk_at "z"
    refine zItemL (l := sl) (x := .int b' tm) (by walk_at "zg") (by decide) (by decide) rfl ?_
    repeat' walk_at "z"
    refine zItemL (l := sl) (x := .int b' tm) (by walk_at "zg") (by decide) (by decide) rfl ?_
    repeat' walk_at "z"
    refine zMul (by assumption) (IntMulOk.of_right (intBits_le_64 (by omega) (by omega))) ?_
    intro _ _ _
    repeat' walk_at "z"
    refine zIntI ?_
    repeat' walk_at "z"
    refine zMod (by assumption) (by decide) hh ?_
    intro _ _ _
    repeat' walk_at "z"
    refine zDiv (by assumption) (by decide) (by decide) hh ?_
    intro _ _ _
    repeat' walk_at "z"
    refine zIntI ?_
    repeat' walk_at "z"
    refine zMod (by assumption) (by omega) hh ?_
    intro _ _ _
    exact ⟨z, _, _, FM.le.refl z, ⟨_, _, rfl, fm0 _ (by omega), fm1 _ (by omega), a, b', ta, tm, n, ha, g0, g1, rfl⟩, by assumption⟩
end
def Drawn (w : Wish) (bits : Int) : Prop := match w with
  | .mask v m => (m = 7 ∨ m = 3 ∨ m = 6 ∨ m = 1 ∨ m = gr bits) ∧ ∃ d, 0 ≤ d ∧ d < 8 ∧ v = Builtin.bitAnd d m
  | .rng lo hi => 0 ≤ lo ∧ lo ≤ hi ∧ hi ≤ 7
def RuleG.Dr (r : RuleG) : Prop := (r.ws.map (·.1)).Pairwise (· < ·) ∧ (∀ p ∈ r.ws, Place p.1 ∧ Drawn p.2 (bitsOf p.1)) ∧ r.ws.length ≤ 4
def DRowAt (c : Cx) (z : FM) (v : Value) (r : RuleG) : Prop := ∃ p wd, v = .ref p ∧ z p = some (tupO [r.act, wd]) ∧ WDict c z wd r.ws ∧ ActAt z r.act
theorem DRowAt.mono {c : Cx} {z z' : FM} (h : FM.le z z') {v : Value} {r : RuleG} : DRowAt c z v r → DRowAt c z' v r := fun ⟨p, wd, a, b, d, e⟩ => ⟨p, wd, a, h _ _ b, d.mono h, e.mono h⟩
theorem stored_new {kvs : List (Int × Value)} {k : Int} {v : Value} (h : ∀ p ∈ kvs, p.1 ≠ k) : stored kvs k v = kvs ++ [(k, v)] := by
  unfold stored
  rw [if_neg]
  intro q
  obtain ⟨p, hp, e⟩ := List.any_eq_true.mp q
  exact h p hp (by simpa using e)
theorem WTab.snoc {z : FM} {kvs : List (Int × Value)} {ws : List (Int × Wish)} (t : WTab z kvs ws) {k : Int} {v : Value} {w : Wish} (h : WishAt z v w) : WTab z (kvs ++ [(k, v)]) (ws ++ [(k, w)]) := by
  induction t with
  | nil => exact .cons h .nil
  | cons a _ ih => exact .cons a ih
def lim : Nat → Int
  | 0 => 3
  | 1 => 4
  | 2 => 7
  | 3 => 8
  | _ => 9
section
variable {c : Cx} {z : FM}
theorem spec_one (ok : c.Ok) {sl tl : Addr} {vs : List Value} {n : Nat} {ls0 : List (Addr × Obj)} (hs : SrcLs sl ls0) (ht : z tl = some (lstO vs n)) (h1 : 1 ≤ vs.length) (h2 : vs.length ≤ 1000) :
    Fn c 2 z 306 [.ref sl, .ref tl] [] ls0 (fun z' r ls => (∃ i : Nat, vs[i]? = some r) ∧ SrcLs sl ls) := by
  refine Fn.plain (binds := [(Str.ofString "source", .ref sl), (Str.ofString "things", .ref tl)]) ok (by k_is) (by k_is) (fun _ _ => BindsTo.of_eq rfl) (locs rfl) (by decide) rfl rfl rfl ?_
  intro A y L s R hS
  have hh := R.1
  dsimp only [updsOf] at hS
  repeat' walk_at "z"
  refine zLenL (by assumption) (by walk_at "zg") (by omega) ?_
  intro t1 s1 hS1 _
  repeat' walk_at "z"
  refine zFn (ls0 := ls0) (rest := []) (spec_take ok hs (by omega) (by omega)) (R.le (by decide)) (by rw [List.append_nil]; assumption) ?_
  rintro r z1 ls1 s2 hz1 ⟨d, t, rfl, hd0, hd1, hs1⟩ hS2
  rw [List.append_nil] at hS2
  have hd : d.toNat < vs.length := by omega
  refine zItemL (x := vs[d.toNat]) (by walk_at "zg") hd0 (by omega) (by simp [hd]) ?_
  exact ⟨z1, _, _, hz1, ⟨⟨d.toNat, by simp [retOf, hd]⟩, hs1⟩, hS2⟩
theorem spec_fields (ok : c.Ok) : Fn c 1 z 313 [] [] [] (fun z' r ls => ls = [] ∧ MaskList z' r [(3, 12), (4, 3), (7, 8), (8, 16)]) := by
  refine Fn.plain (binds := []) ok (by k_is) (by k_is) (fun _ _ => BindsTo.of_eq rfl) (locs rfl) (by decide) rfl rfl rfl ?_
  intro A y L s R hS
  dsimp only [updsOf] at hS
  repeat' walk_at "z"
  refine zNewT (by assumption) ?_
  intro p1 z1 s1 hz1 hp1 hS1
  repeat' walk_at "z"
  refine zNewT (by assumption) ?_
  intro p2 z2 s2 hz2 hp2 hS2
  repeat' walk_at "z"
  refine zNewT (by assumption) ?_
  intro p3 z3 s3 hz3 hp3 hS3
  repeat' walk_at "z"
  refine zNewT (by assumption) ?_
  intro p4 z4 s4 hz4 hp4 hS4
  repeat' walk_at "z"
  refine zNewL (by assumption) ?_
  intro l s5 hS5
  have h5 := S.le_freeze hS5
  have h45 := hz4.trans h5
  have h35 := hz3.trans h45
  have h25 := hz2.trans h35
  exact ⟨_, [], _, hz1.trans h25, ⟨rfl, l, _, _, rfl, FM.put_self, .cons ⟨p1, _, _, rfl, h25 _ _ hp1⟩ (.cons ⟨p2, _, _, rfl, h35 _ _ hp2⟩ (.cons ⟨p3, _, _, rfl, h45 _ _ hp3⟩ (.cons ⟨p4, _, _, rfl, h5 _ _ hp4⟩ .nil)))⟩, S.freeze hS5⟩
theorem spec_law_wish (ok : c.Ok) {sl : Addr} {k : Int} {tb : Tok} {ls0 : List (Addr × Obj)} (hs : SrcLs sl ls0) (hk : Place k) : Fn c 3 z 320 [.ref sl, .int (bitsOf k) tb] [] ls0 (fun z' r ls => ∃ w, WishAt z' r w ∧ Drawn w (bitsOf k) ∧ SrcLs sl ls) := by
  have hb := Good.bits (k := k)
  refine Fn.plain (binds := [(Str.ofString "source", .ref sl), (Str.ofString "bits", .int (bitsOf k) tb)]) ok (by k_is) (by k_is) (fun _ _ => BindsTo.of_eq rfl) (locs rfl) (by decide) rfl rfl rfl ?_
  intro A y L s R hS
  have hh := R.1
  dsimp only [updsOf] at hS
  repeat' walk_at "z"
  refine zFn (ls0 := ls0) (rest := []) (spec_take ok hs (by decide) (by decide)) (R.le (by decide)) (by rw [List.append_nil]; assumption) ?_
  rintro r z1 ls1 s2 hz1 ⟨d, t, rfl, hd0, hd1, hs1⟩ hS2
  rw [List.append_nil] at hS2
  repeat' walk_at "z"
  refine zIte ?_ ?_ <;> intro hb0
  · repeat' walk_at "z"
    refine zPow (by assumption) hb.1 ?_ ?_
    · have : Builtin.Int.intBits 2 = 2 := by decide
      rw [this]; omega
    intro _ _ _
    repeat' walk_at "z"
    refine zNewL (by assumption) ?_
    intro tl s3 hS3
    have h3 := S.le_freeze hS3
    have hS4 := S.freeze hS3
    obtain ⟨z2, hz2', htl⟩ : ∃ z2, z2 = z1.put tl _ ∧ z2 tl = some _ := ⟨_, rfl, FM.put_self⟩
    rw [← hz2'] at hS4 h3
    clear hS3
    repeat' walk_at "z"
    refine zFn (ls0 := ls1) (rest := []) (spec_one ok hs1 htl (by simp) (by simp)) (R.le (by decide)) (by rw [List.append_nil]; assumption) ?_
    rintro r z3 ls3 s5 hz3 ⟨⟨i, hi⟩, hs3⟩ hS5
    rw [List.append_nil] at hS5
    obtain ⟨m, tm, rfl, hm⟩ : ∃ m tm, r = .int m tm ∧ (m = 7 ∨ m = 3 ∨ m = 6 ∨ m = 1 ∨ m = gr (bitsOf k)) := by
      match i, hi with
      | 0, e => cases e; exact ⟨_, _, rfl, .inl rfl⟩
      | 1, e => cases e; exact ⟨_, _, rfl, .inr (.inl rfl)⟩
      | 2, e => cases e; exact ⟨_, _, rfl, .inr (.inr (.inl rfl))⟩
      | 3, e => cases e; exact ⟨_, _, rfl, .inr (.inr (.inr (.inl rfl)))⟩
      | 4, e => cases e; exact ⟨_, _, rfl, .inr (.inr (.inr (.inr (by unfold gr; rw [Int.one_mul]))))⟩
      | n + 5, e => simp at e
    repeat' walk_at "z"
    refine zFn (ls0 := ls3) (rest := []) (spec_take ok hs3 (by decide) (by decide)) (R.le (by decide)) (by rw [List.append_nil]; assumption) ?_
    rintro r z4 ls4 s6 hz4 ⟨d2, t2, rfl, hd20, hd21, hs4⟩ hS6
    rw [List.append_nil] at hS6
    repeat' walk_at "z"
    refine zNewT (by assumption) ?_
    intro tp z5 s7 hz5 htp hS7
    exact ⟨z5, _, _, (((hz1.trans h3).trans hz3).trans hz4).trans hz5, ⟨.mask (Builtin.bitAnd d2 m) m, ⟨tp, _, _, _, rfl, htp⟩, ⟨hm, d2, hd20, hd21, rfl⟩, hs4⟩, hS7⟩
  · repeat' walk_at "z"
    refine zFn (ls0 := ls1) (rest := []) (spec_take ok hs1 (by decide) (by decide)) (R.le (by decide)) (by rw [List.append_nil]; assumption) ?_
    rintro r z2 ls2 s3 hz2 ⟨lo, t2, rfl, hl0, hl1, hs2⟩ hS3
    rw [List.append_nil] at hS3
    repeat' walk_at "z"
    refine zFn (ls0 := ls2) (rest := []) (spec_take ok hs2 (by omega) (by omega)) (R.le (by decide)) (by rw [List.append_nil]; assumption) ?_
    rintro r z3 ls3 s4 hz3 ⟨d3, t3, rfl, hd30, hd31, hs3⟩ hS4
    rw [List.append_nil] at hS4
    repeat' walk_at "z"
    refine zNewT (by assumption) ?_
    intro tp z5 s7 hz5 htp hS7
    exact ⟨z5, _, _, ((hz1.trans hz2).trans hz3).trans hz5, ⟨.rng lo (lo + d3), ⟨tp, _, _, _, rfl, htp⟩, ⟨hl0, by omega, by omega⟩, hs3⟩, hS7⟩
end
section
variable {c : Cx} {z : FM}
theorem spec_law_rule (ok : c.Ok) {sl : Addr} {ls0 : List (Addr × Obj)} (hs : SrcLs sl ls0) : Fn c 4 z 327 [.ref sl] [] ls0 (fun z' r ls => ∃ g : RuleG, DRowAt c z' r g ∧ g.Dr ∧ SrcLs sl ls) := by
  refine Fn.plain (binds := [(Str.ofString "source", .ref sl)]) ok (by k_is) (by k_is) (fun _ _ => BindsTo.of_eq rfl) (locs rfl) (by decide) rfl rfl rfl ?_
  intro A y L s R hS
  have hh := R.1
  dsimp only [updsOf] at hS
  walk_at "z"
  refine zDict0 ok (by assumption) ?_
  intro d o s1 hd1 hD hS1
  repeat' walk_at "z"
  refine zFn (ls0 := []) (spec_fields ok) (R.le (by decide)) (by assumption) ?_
  rintro r z1 ls1 s2 hz1 ⟨rfl, l, vs, n', rfl, hl, hrows⟩ hS2
  refine zForList hl hh hS2 (fun i z2 m2 ls2 => m2 (Str.ofString "source") = some (.ref sl) ∧ m2 (Str.ofString "wishes") = some (.ref d) ∧
      ∃ o kvs ws lsr, ls2 = (d, o) :: lsr ∧ SrcLs sl lsr ∧ o.IsDictOf (IK c) kvs ∧ WTab z2 kvs ws ∧ (ws.map (·.1)).Pairwise (· < ·) ∧ (∀ p ∈ ws, (Place p.1 ∧ Drawn p.2 (bitsOf p.1)) ∧ p.1 < lim i) ∧ ws.length ≤ i)
    (fun _ _ _ _ => False) ⟨by walk_at "lk", by walk_at "lk", o, [], [], ls0, rfl, hs, hD, .nil, .nil, fun p hp => (by cases hp), Nat.le_refl _⟩ ?_ ?_ ?_
  · rintro i v z2 y2 m2 ls2 s3 hi hv hz2 ⟨e1, e2, o, kvs, ws, lsr, rfl, hsr, hD, ht, hpw, hall, hlen⟩ hS3
    obtain ⟨r, hr, hrv⟩ := hrows.get hv
    obtain ⟨p, t1, t2, rfl, hp⟩ := hrv.mono hz2
    have hvl := hrows.length
    have hi4 : i < 4 := by rw [hvl] at hi; exact hi
    obtain ⟨k, hk, hrk, hlim, hlim2⟩ : ∃ k, Place k ∧ r = (k, bitsOf k) ∧ lim i = k ∧ k < lim (i + 1) ∧ lim i < lim (i + 1) := by
      match i, hr, hi4 with
      | 0, e, _ => cases e; exact ⟨3, .inl rfl, rfl, rfl, by decide, by decide⟩
      | 1, e, _ => cases e; exact ⟨4, .inr (.inl rfl), rfl, rfl, by decide, by decide⟩
      | 2, e, _ => cases e; exact ⟨7, .inr (.inr (.inl rfl)), rfl, rfl, by decide, by decide⟩
      | 3, e, _ => cases e; exact ⟨8, .inr (.inr (.inr rfl)), rfl, rfl, by decide, by decide⟩
    rw [hrk] at hp
    repeat' walk_at "z"
    refine zFn (ls0 := lsr) (rest := [(d, o)]) (spec_take ok hsr (by decide) (by decide)) (R.le (by decide)) (S.perm (by assumption) (List.perm_append_comm (l₁ := lsr) (l₂ := [(d, o)]))) ?_
    rintro r z3 ls3 s4 hz3 ⟨dd, t, rfl, hd0, hd1, hs3⟩ hS4
    repeat' walk_at "z"
    refine zIte ?_ ?_ <;> intro hb0
    · repeat' walk_at "z"
      refine zFn (ls0 := ls3) (rest := [(d, o)]) (spec_law_wish ok hs3 hk) (R.le (by decide)) (by assumption) ?_
      rintro r z4 ls4 s5 hz4 ⟨w, hw, hdw, hs4⟩ hS5
      repeat' walk_at "z"
      refine zDictSet (S.perm (by assumption) (List.perm_append_comm (l₁ := [(d, o)]) (l₂ := ls4))) hD (by have := ht.length; omega) ?_
      intro o2 s6 hD2 hS6
      have hne : ∀ p ∈ kvs, p.1 ≠ k := fun p hp e => by
        have hk2 : p.1 ∈ ws.map (·.1) := ht.keys ▸ List.mem_map_of_mem hp
        obtain ⟨q, hq, eq⟩ := List.mem_map.mp hk2
        have := (hall q hq).2
        rw [eq, e, hlim] at this
        exact absurd this (Int.lt_irrefl k)
      rw [stored_new hne] at hD2
      repeat' walk_at "z"
      refine ⟨z4, _, _, hz3.trans hz4, by assumption, by walk_at "lk", by walk_at "lk", o2, _, ws ++ [(k, w)], ls4, rfl, hs4, hD2, (ht.mono (hz3.trans hz4)).snoc hw, ?_, ?_, by rw [List.length_append, List.length_singleton]; omega⟩
      · rw [List.map_append, List.pairwise_append]
        refine ⟨hpw, List.pairwise_singleton _ _, fun a ha b hb => ?_⟩
        obtain ⟨q, hq, rfl⟩ := List.mem_map.mp ha
        have := (hall q hq).2
        have hb : b = k := by simpa using hb
        rw [hb, ← hlim]; exact this
      · intro p hp
        rcases List.mem_append.mp hp with hp | hp
        · exact ⟨(hall p hp).1, Int.lt_trans (hall p hp).2 hlim2.2⟩
        · rw [List.mem_singleton.mp hp]; exact ⟨⟨hk, hdw⟩, hlim2.1⟩
    · repeat' walk_at "z"
      exact ⟨z3, _, _, hz3, S.perm (by assumption) (List.perm_append_comm (l₁ := [(d, o)]) (l₂ := ls3)), by walk_at "lk", by walk_at "lk", o, kvs, ws, ls3, rfl, hs3, hD, ht.mono hz3, hpw, fun p hp => ⟨(hall p hp).1, Int.lt_trans (hall p hp).2 hlim2.2⟩, by omega⟩
  · rintro z2 m2 ls2 s3 hz2 ⟨e1, e2, o, kvs, ws, lsr, rfl, hsr, hD, ht, hpw, hall, hlen⟩ hS3
    have hvl := hrows.length
    have hS4 := S.freeze hS3
    have hzf := S.le_freeze hS3
    obtain ⟨z3, hz3', hzd⟩ : ∃ z3, z3 = z2.put d o ∧ z3 d = some o := ⟨_, rfl, FM.put_self⟩
    rw [← hz3'] at hS4 hzf
    clear hS3
    have hdz : DictZ c z3 (.ref d) kvs := ⟨d, o, rfl, hd1, hzd, hD⟩
    repeat' walk_at "z"
    refine zNewT (by assumption) ?_
    intro tm z4 s4 hz4 htm hS5
    repeat' walk_at "z"
    refine zNewL (by assumption) ?_
    intro tl s5 hS6
    have h6 := S.le_freeze hS6
    have hS7 := S.freeze hS6
    obtain ⟨z5, hz5', htl⟩ : ∃ z5, z5 = z4.put tl _ ∧ z5 tl = some _ := ⟨_, rfl, FM.put_self⟩
    rw [← hz5'] at hS7 h6
    clear hS6
    repeat' walk_at "z"
    refine zFn (ls0 := lsr) (rest := []) (spec_one ok hsr htl (by simp) (by simp)) (R.le (by decide)) (by rw [List.append_nil]; assumption) ?_
    rintro r z6 ls6 s6 hz6 ⟨⟨i, hi⟩, hs6⟩ hS8
    rw [List.append_nil] at hS8
    have hact : ActAt z6 r := by
      match i, hi with
      | 0, e => cases e; exact .inl ⟨_, rfl⟩
      | 1, e => cases e; exact .inr (.inl ⟨_, rfl⟩)
      | 2, e => cases e; exact .inr (.inr ⟨tm, _, _, rfl, hz6 _ _ (h6 _ _ htm)⟩)
      | n + 3, e => simp at e
    repeat' walk_at "z"
    refine zNewT (by assumption) ?_
    intro tp z7 s7 hz7 htp hS9
    have hzz := (((hzf.trans hz4).trans h6).trans hz6).trans hz7
    exact ⟨z7, _, _, (hz1.trans hz2).trans hzz, ⟨⟨r, ws⟩, ⟨tp, _, rfl, htp, ⟨kvs, hdz.mono (((hz4.trans h6).trans hz6).trans hz7), ht.mono hzz⟩, hact.mono hz7⟩, ⟨hpw, fun p hp => (hall p hp).1, by rw [hvl] at hlen; exact hlen⟩, hs6⟩, hS9⟩
  · rintro r z2 m2 ls2 s3 hz2 hf
    exact hf.elim
end
def lawBad (v m n : Int) (i : Nat) : Bool := (m.fdiv (2 ^ i)).fmod 2 == 1 && (n.fdiv (2 ^ i)).fmod 2 != (v.fdiv (2 ^ i)).fmod 2
def lawHolds (w : Wish) (n : Int) : Bool := if n < 0 then false else match w with
  | .rng lo hi => decide (n ≥ lo) && decide (n ≤ hi)
  | .mask v m => !((List.range 16).any (lawBad v m n))
section
variable {c : Cx} {z : FM}
theorem pow_ok {i : Nat} (h : i < 16) : ((2 : Int) ^ i) ≠ 0 ∧ ((2 : Int) ^ i).natAbs < 1073741824 := by
  have : i = 0 ∨ i = 1 ∨ i = 2 ∨ i = 3 ∨ i = 4 ∨ i = 5 ∨ i = 6 ∨ i = 7 ∨ i = 8 ∨ i = 9 ∨ i = 10 ∨ i = 11 ∨ i = 12 ∨ i = 13 ∨ i = 14 ∨ i = 15 := by omega
  rcases this with rfl | rfl | rfl | rfl | rfl | rfl | rfl | rfl | rfl | rfl | rfl | rfl | rfl | rfl | rfl | rfl <;> decide
theorem two_bits : Builtin.Int.intBits 2 = 2 := by decide
theorem spec_law_holds (ok : c.Ok) {p : Value} {w : Wish} {n : Int} {t : Tok} (hp : WishAt z p w) : Fn c 1 z 334 [p, .int n t] [] [] (fun z' r ls => ls = [] ∧ r = .bool (lawHolds w n)) := by
  refine Fn.plain (binds := [(Str.ofString "wish", p), (Str.ofString "number", .int n t)]) ok (by k_is) (by k_is) (fun _ _ => BindsTo.of_eq rfl) (locs rfl) (by decide) rfl rfl rfl ?_
  intro A y L s R hS
  have hh := R.1
  dsimp only [updsOf] at hS
  repeat' walk_at "z"
  refine zIte ?_ ?_ <;> intro hb
  · have hn : n < 0 := by simpa using hb
    repeat' walk_at "z"
    exact ⟨z, [], _, FM.le.refl z, ⟨rfl, by simp [retOf, lawHolds, hn]⟩, by assumption⟩
  · have hn : ¬ n < 0 := by simpa using hb
    cases w with
    | rng lo hi =>
      obtain ⟨p, t0, t1, t2, rfl, hp⟩ := hp
      repeat' walk_at "z"
      refine zIte ?_ ?_ <;> intro hb2
      · repeat' walk_at "z"
        exact ⟨z, [], _, FM.le.refl z, ⟨rfl, by simp only [retOf, lawHolds]; rw [if_neg hn, hb2]; rfl⟩, by assumption⟩
      · exact ⟨z, [], _, FM.le.refl z, ⟨rfl, by simp only [retOf, lawHolds]; rw [if_neg hn, hb2]; rfl⟩, by assumption⟩
    | mask v m =>
      obtain ⟨p, t0, t1, t2, rfl, hp⟩ := hp
      repeat' walk_at "z"
      refine zRange (n := 16) (by assumption) ?_
      intro rg t3 t4 z1 s1 hz1 hrg hS1
      refine zIterRange hS1 hrg (by decide) ?_
      intro I o s2 st hS2
      refine zForIt (Itr.range (b := 0) (n := 16)) hh hS2 st (fun i z2 m2 ls2 => m2 (Str.ofString "wish") = some (.ref p) ∧ m2 (Str.ofString "number") = some (.int n t) ∧ ls2 = [] ∧ ((List.range 16).take i).any (lawBad v m n) = false)
        (fun r z2 m2 ls2 => ls2 = [] ∧ r = .bool false ∧ (List.range 16).any (lawBad v m n) = true) ⟨by walk_at "lk", by walk_at "lk", rfl, rfl⟩ ?_ ?_ ?_
      · rintro i v0 z2 y2 m2 ls2 s3 hi ⟨ti, rfl⟩ hz2 ⟨e1, e2, rfl, hany⟩ hS3
        have ei : (0 : Int) + i = i := by omega
        rw [ei]
        have hpw := pow_ok hi
        have hri : (List.range 16)[i]? = some i := by simp [hi]
        have hfit : (Builtin.Int.intBits 2 : Int) * i ≤ 2 ^ 27 := by rw [two_bits]; omega
        repeat' walk_at "z"
        refine zPow (by assumption) (by omega) hfit ?_
        intro _ _ _
        rw [Int.toNat_natCast]
        repeat' walk_at "z"
        refine zDiv (by assumption) hpw.1 hpw.2 hh ?_
        intro _ _ _
        repeat' walk_at "z"
        refine zMod (by assumption) (by decide) hh ?_
        intro _ _ _
        repeat' walk_at "z"
        refine zIte ?_ ?_ <;> intro hb3
        · repeat' walk_at "z"
          refine zPow (by assumption) (by omega) hfit ?_
          intro _ _ _
          rw [Int.toNat_natCast]
          repeat' walk_at "z"
          refine zDiv (by assumption) hpw.1 hpw.2 hh ?_
          intro _ _ _
          repeat' walk_at "z"
          refine zMod (by assumption) (by decide) hh ?_
          intro _ _ _
          repeat' walk_at "z"
          refine zPow (by assumption) (by omega) hfit ?_
          intro _ _ _
          rw [Int.toNat_natCast]
          repeat' walk_at "z"
          refine zDiv (by assumption) hpw.1 hpw.2 hh ?_
          intro _ _ _
          repeat' walk_at "z"
          refine zMod (by assumption) (by decide) hh ?_
          intro _ _ _
          repeat' walk_at "z"
          refine zIte ?_ ?_ <;> intro hb4
          · have hbad : lawBad v m n i = true := by unfold lawBad; rw [hb3, hb4]; rfl
            repeat' walk_at "z"
            exact ⟨z2, _, [], FM.le.refl z2, by assumption, rfl, rfl, is_any hri hbad⟩
          · have hbad : lawBad v m n i = false := by unfold lawBad; rw [hb4, Bool.and_false]
            repeat' walk_at "z"
            exact ⟨z2, _, [], FM.le.refl z2, by assumption, by walk_at "lk", by walk_at "lk", rfl, any_take hany hri hbad⟩
        · have hbad : lawBad v m n i = false := by unfold lawBad; rw [hb3]; rfl
          repeat' walk_at "z"
          exact ⟨z2, _, [], FM.le.refl z2, by assumption, by walk_at "lk", by walk_at "lk", rfl, any_take hany hri hbad⟩
      · rintro z2 m2 ls2 s3 hz2 ⟨e1, e2, rfl, hany⟩ hS3
        have hany : (List.range 16).any (lawBad v m n) = false := hany
        repeat' walk_at "z"
        exact ⟨z2, [], _, hz1.trans hz2, ⟨rfl, by simp only [retOf, lawHolds]; rw [if_neg hn, hany]; rfl⟩, by assumption⟩
      · rintro r z2 m2 ls2 s3 hz2 ⟨rfl, rfl, hany⟩ hS3
        exact ⟨z2, [], _, hz1.trans hz2, ⟨rfl, by simp only [retOf, lawHolds]; rw [if_neg hn, hany]; rfl⟩, by assumption⟩
end
def RuleG.law (g : RuleG) (key : List Int) : Bool := g.ws.all fun p => lawHolds p.2 (fld key p.1)
def lawFirst (gs : List RuleG) (key : List Int) : Option Nat := gs.findIdx? (·.law key)
theorem lawFirst_some {rs : List RuleG} {key : List Int} {i : Nat} {r : RuleG} (h : ∀ j, j < i → ∀ q, rs[j]? = some q → q.law key = false) (e : rs[i]? = some r) (hp : r.law key = true) : lawFirst rs key = some i := by
  obtain ⟨hi, rfl⟩ := List.getElem?_eq_some_iff.mp e
  refine List.findIdx?_eq_some_iff_getElem.mpr ⟨hi, hp, fun j hj => ?_⟩
  rw [h j hj _ (List.getElem?_eq_getElem (Nat.lt_trans hj hi))]; simp
theorem lawFirst_none {rs : List RuleG} {key : List Int} (h : ∀ j, j < rs.length → ∀ q, rs[j]? = some q → q.law key = false) : lawFirst rs key = none := by
  refine List.findIdx?_eq_none_iff.mpr fun q hq => ?_
  obtain ⟨j, hj⟩ := List.mem_iff_getElem?.mp hq
  exact h j (List.getElem?_eq_some_iff.mp hj).1 q hj
def DRows (c : Cx) (z : FM) (v : Value) (gs : List RuleG) : Prop := ∃ l vs n, v = .ref l ∧ z l = some (lstO vs n) ∧ All2 (DRowAt c z) vs gs
theorem DRows.mono {c : Cx} {z z' : FM} (h : FM.le z z') {v : Value} {gs : List RuleG} : DRows c z v gs → DRows c z' v gs := fun ⟨l, vs, n, a, b, d⟩ => ⟨l, vs, n, a, h _ _ b, d.imp fun _ _ x => x.mono h⟩
theorem S.bare {c : Cx} {z y : FM} {L : Addr} {m : Str → Option Value} {ls : List (Addr × Obj)} {s : Shared} (h : S c z y L m ls s) : S c z y L m [] s :=
  { h with
    lv := fun p hp => (by cases hp)
    nd := List.nodup_nil }
section
variable {c : Cx} {z : FM}
theorem zIterDict {A : Around} {y : FM} {L : Addr} {m : Str → Option Value} {ls : List (Addr × Obj)} {s : Shared} {p : Value} {kvs : List (Int × Value)} {Q : Value → Shared → Prop} (hS : S c z y L m ls s) (hD : DictZ c z p kvs)
    (h : ∀ d I o ep s', Itr c z I kvs.length (fun i v => ∃ k x t, kvs[i]? = some (k, x) ∧ v = .int k t) (StDict d kvs.length ep) → StDict d kvs.length ep 0 o → S c z y L m ((I, o) :: ls) s' → Q (.ref I) s') : W c A (pyIter p) Q s := by
  obtain ⟨d, o, rfl, n1, hz, hD⟩ := hD
  have e := hS.fz _ _ hz
  obtain ⟨ep, hat⟩ := (dictOf_of e hD).dictAt
  refine wpAny_pyIter_dict (knd := IK c) (by show (d == 1) = false; simpa using n1) hat ?_
  obtain ⟨o', es, ho', r⟩ := hat
  rw [e] at ho'
  cases ho'
  exact h d _ _ ep _ (Itr.dict hz ⟨es, r⟩) ⟨rfl, rfl⟩ (hS.alloc _)
theorem spec_law_first (ok : c.Ok) {v kv : Value} {gs : List RuleG} {key : List Int} (hv : DRows c z v gs) (hkv : KeyAt z kv key) (hg : ∀ g ∈ gs, g.Dr) (hn : gs.length ≤ 100) : Fn c 2 z 339 [v, kv] [] [] (fun z' r ls => ls = [] ∧ OptAt r (optI (lawFirst gs key))) := by
  obtain ⟨l, vs, n, rfl, hl, hvs⟩ := hv
  have hlen := hvs.length
  refine Fn.cells (binds := [(Str.ofString "rows", .ref l), (Str.ofString "key", kv)]) (m₀ := upd no (Str.ofString "rows") (.ref l)) (cm₀ := upd no (Str.ofString "key") kv) ok (by k_is) (by k_is) (fun _ _ => BindsTo.of_eq rfl) (by rfl) (by decide) (fun _ => rfl) (fun _ => rfl) rfl rfl rfl ?_
  intro A y L s cells R Y hS
  have hh := R.1
  have hu : A.units < cLine := by have := R.2.2; omega
  obtain ⟨ow, ok', rfl, how, hok'⟩ := (show CellsAre _ [(Str.ofString "wishes", L + 2), (Str.ofString "key", L + 1)] cells from Y).two
  replace hok' : ok'.data = .cell (some kv) := hok'
  have hS0 := S.second hS
  have hz0 := S.le_freeze hS0
  have hS1 := S.freeze hS0
  obtain ⟨z0, hz0', hck⟩ : ∃ z0, z0 = z.put (L + 1) ok' ∧ z0 (L + 1) = some ok' := ⟨_, rfl, FM.put_self⟩
  rw [← hz0'] at hS1 hz0
  clear hS hS0
  repeat' walk_at "z"
  refine zLenL (by assumption) (by walk_at "zg") (by omega) ?_
  intro t1 s1 hS2 _
  repeat' walk_at "z"
  refine zRange (n := vs.length) (by assumption) ?_
  intro rg t3 t4 z1 s2 hz1 hrg hS3
  refine zIterRange hS3 hrg (by omega) ?_
  intro I o s3 st hS4
  refine zForIt (Itr.range (b := 0) (n := vs.length)) hh hS4 st (fun i z2 m2 ls2 => m2 (Str.ofString "rows") = some (.ref l) ∧ (∃ ow v0, ls2 = [(L + 2, ow)] ∧ ow.data = .cell v0) ∧ ∀ j, j < i → ∀ q, gs[j]? = some q → q.law key = false)
    (fun r z2 m2 ls2 => OptAt r (optI (lawFirst gs key))) ⟨by walk_at "lk", ⟨ow, _, rfl, how⟩, fun j hj => absurd hj (Nat.not_lt_zero _)⟩ ?_ ?_ ?_
  · rintro i v0 z2 y2 m2 ls2 s4 hi ⟨ti, rfl⟩ hz2 ⟨e1, ⟨ow, v0, rfl, how⟩, hno⟩ hS5
    have ei : (0 : Int) + i = i := by omega
    rw [ei]
    obtain ⟨g, hgi⟩ : ∃ g, gs[i]? = some g := ⟨gs[i]'(by omega), by simp⟩
    obtain ⟨rv, hrv, hra⟩ := hvs.at hgi
    obtain ⟨p, wd, rfl, hp, ⟨kvs, hd, ht⟩, -⟩ := hra.mono ((hz0.trans hz1).trans hz2)
    have hgd := hg g (List.mem_of_getElem? hgi)
    have hkl := ht.length
    repeat' walk_at "z"
    refine zItemL (l := l) (by walk_at "zg") (by omega) (by omega) (by simpa using hrv) ?_
    repeat' walk_at "z"
    refine eStoreC (by assumption) how ?_
    intro ow2 s5 how2 hS6
    clear how
    repeat' walk_at "z"
    refine zListComp (cl := [(Str.ofString "wishes", L + 2), (Str.ofString "key", L + 1)]) rfl rfl (by decide) ?_
    repeat' walk_at "z"
    refine zIterDict (by assumption) hd ?_
    intro d I2 o2 ep s6 hT st2 hS7
    refine comp_go hT hh hS7 st2 (by decide) rfl (by have := hgd.2.2; omega)
      (fun j z3 m3 ls3 acc => ls3 = [(L + 2, ow2)] ∧ acc.isEmpty = (g.ws.take j).all (fun p => lawHolds p.2 (fld key p.1))) ⟨rfl, rfl⟩ ?_ ?_
    · rintro C j v1 z3 y3 m3 ls3 s7 acc hj ⟨k, xv, tk, hkj, rfl⟩ hz3 ⟨rfl, hacc⟩ hS8
      obtain ⟨w, hw⟩ : ∃ w, g.ws[j]? = some (k, w) := by
        have : (g.ws.map (·.1))[j]? = some k := by rw [← ht.keys, List.getElem?_map, hkj]; rfl
        exact ws_at this
      obtain ⟨wv, hwv, hwa⟩ := ht.at hw
      have hdr := hgd.2.1 _ (List.mem_of_getElem? hw)
      repeat' walk_at "z"
      refine zDictGet (by assumption) (hd.mono hz3) (valueAt_of_get (by rw [ht.keys]; exact nodup_of_lt hgd.1) hwv) ?_
      intro s8 hS9
      repeat' walk_at "z"
      refine zKeyGet (by assumption) ((((hkv.mono hz0).mono hz1).mono hz2).mono hz3) hdr.1 ?_
      intro t7
      repeat' walk_at "z"
      refine zFn (spec_law_holds ok (hwa.mono hz3)) (R.le (by decide)) (by assumption) ?_
      rintro _ z4 ls4 s9 hz4 ⟨rfl, rfl⟩ hS10
      repeat' walk_at "z"
      refine zIte ?_ ?_ <;> intro hb
      · have k1 : lawHolds w (fld key k) = false := by simpa using hb
        repeat' walk_at "z"
        exact ⟨z4, _, _, hz4, by assumption, rfl, by rw [all_snoc hw, k1, Bool.and_false]; simp⟩
      · have k1 : lawHolds w (fld key k) = true := by simpa using hb
        repeat' walk_at "z"
        exact ⟨z4, _, _, hz4, by assumption, rfl, by rw [all_snoc hw, k1, Bool.and_true]; exact hacc⟩
    · rintro D2 C k2 z3 m3 mC ls3 s7 oC acc hz3 ⟨rfl, hacc⟩ yC hC hS8
      refine comp_ret hC hS8 yC fun s8 hS9 => ?_
      rw [hkl, List.take_length] at hacc
      clear hS8 hS7
      repeat' walk_at "z"
      refine zNewL (by assumption) ?_
      intro be s9 hS10
      repeat' walk_at "z"
      refine zEqNil (by walk_at "zg") (by walk_at "zg") hu ?_
      repeat' walk_at "z"
      rw [hacc]
      refine zIte ?_ ?_ <;> intro hb
      · repeat' walk_at "z"
        exact ⟨z3, _, _, hz3, by assumption, by rw [lawFirst_some hno hgi hb]; exact ⟨_, rfl⟩⟩
      · repeat' walk_at "z"
        exact ⟨z3, _, _, hz3, S.drop (S.drop (by assumption)), by walk_at "lk", ⟨ow2, _, rfl, how2⟩, fun j hj q hq => by
          rcases Nat.lt_or_ge j i with h | h
          · exact hno j h q hq
          · have : j = i := by omega
            subst this; rw [hgi] at hq; cases hq; exact hb⟩
  · rintro z2 m2 ls2 s4 hz2 ⟨e1, ⟨ow, v0, rfl, how⟩, hno⟩ hS5
    repeat' walk_at "z"
    exact ⟨z2, [], _, (hz0.trans hz1).trans hz2, ⟨rfl, by rw [lawFirst_none (by rw [← hlen]; exact hno)]; rfl⟩, S.drop (by assumption)⟩
  · rintro r z2 m2 ls2 s4 hz2 ho hS5
    exact ⟨z2, [], _, (hz0.trans hz1).trans hz2, ⟨rfl, ho⟩, hS5.bare⟩
end
def KeyD (key : List Int) : Prop := ∀ k, Place k → -1 ≤ fld key k ∧ fld key k ≤ 8 ∧ (k = 4 → fld key k ≤ 7)
section
variable {c : Cx} {z : FM}
theorem zAssignSub {A : Around} {s : Shared} {env : Env} {o i : Expr} {pos : Pos} {v : Value} {Q : Unit → Shared → Prop}
    (h : W c A (eval o env) (fun ov s₁ => W c A (eval i env) (fun iv s₂ => W c A (setItem ov iv v) Q s₂) s₁) s) : W c A (assign (.Subscript o i pos) env v) Q s := by
  show wpAny _ A (assign _ _ _) _ _ s
  rw [assign_Subscript]
  refine wpAny_bind (wpAny_holding (W.any (W.mono h fun ov s1 h1 => ?_)))
  refine wpAny_bind (wpAny_holding (W.any (W.mono h1 fun iv s2 h2 => ?_)))
  exact wpAny_bind (wpAny_standAt (wpAny_bind (wpAny_holding (W.any (W.mono h2 fun _ s3 h3 => wpAny_release h3)))))
theorem key_ok {d1 d2 e1 e2 : Int} (h1 : 0 ≤ d1) (h1' : d1 < 9) (h2 : 0 ≤ d2) (h2' : d2 < 8) (h3 : -1 ≤ e1) (h3' : e1 < 9) (h4 : -1 ≤ e2) (h4' : e2 < 9) : KeyD [1, 2, 2048, d1, d2, 3, 4, e1, e2, 5] := by
  intro k hk
  rcases hk with rfl | rfl | rfl | rfl
  · show -1 ≤ d1 ∧ d1 ≤ 8 ∧ _; exact ⟨by omega, by omega, fun h => by cases h⟩
  · show -1 ≤ d2 ∧ d2 ≤ 8 ∧ ((4 : Int) = 4 → d2 ≤ 7); exact ⟨by omega, by omega, fun _ => by omega⟩
  · show -1 ≤ e1 ∧ e1 ≤ 8 ∧ _; exact ⟨by omega, by omega, fun h => by cases h⟩
  · show -1 ≤ e2 ∧ e2 ≤ 8 ∧ _; exact ⟨by omega, by omega, fun h => by cases h⟩
theorem spec_law_key (ok : c.Ok) {sl : Addr} {ls0 : List (Addr × Obj)} (hs : SrcLs sl ls0) : Fn c 2 z 346 [.ref sl] [] ls0 (fun z' r ls => ∃ key, KeyAt z' r key ∧ KeyD key ∧ SrcLs sl ls) := by
  refine Fn.plain (binds := [(Str.ofString "source", .ref sl)]) ok (by k_is) (by k_is) (fun _ _ => BindsTo.of_eq rfl) (locs rfl) (by decide) rfl rfl rfl ?_
  intro A y L s R hS
  have hh := R.1
  dsimp only [updsOf] at hS
  repeat' walk_at "z"
  refine zFn (ls0 := ls0) (rest := []) (spec_take ok hs (by decide) (by decide)) (R.le (by decide)) (by rw [List.append_nil]; assumption) ?_
  rintro r z1 ls1 s1 hz1 ⟨d1, t1, rfl, a1, b1, hs1⟩ hS1
  rw [List.append_nil] at hS1
  repeat' walk_at "z"
  refine zFn (ls0 := ls1) (rest := []) (spec_take ok hs1 (by decide) (by decide)) (R.le (by decide)) (by rw [List.append_nil]; assumption) ?_
  rintro r z2 ls2 s2 hz2 ⟨d2, t2, rfl, a2, b2, hs2⟩ hS2
  rw [List.append_nil] at hS2
  repeat' walk_at "z"
  refine zFn (ls0 := ls2) (rest := []) (spec_take ok hs2 (by decide) (by decide)) (R.le (by decide)) (by rw [List.append_nil]; assumption) ?_
  rintro r z3 ls3 s3 hz3 ⟨d3, t3, rfl, a3, b3, hs3⟩ hS3
  rw [List.append_nil] at hS3
  repeat' walk_at "z"
  refine zFn (ls0 := ls3) (rest := []) (spec_take ok hs3 (by decide) (by decide)) (R.le (by decide)) (by rw [List.append_nil]; assumption) ?_
  rintro r z4 ls4 s4 hz4 ⟨d4, t4, rfl, a4, b4, hs4⟩ hS4
  rw [List.append_nil] at hS4
  repeat' walk_at "z"
  refine zNewL (by assumption) ?_
  intro kl s5 hS5
  repeat' walk_at "z"
  refine zFn (ls0 := ls4) (rest := [(kl, _)]) (spec_take ok hs4 (by decide) (by decide)) (R.le (by decide)) (S.perm (by assumption) (List.perm_append_comm (l₁ := ls4) (l₂ := [(kl, _)]))) ?_
  rintro r z5 ls5 s6 hz5 ⟨d5, t5, rfl, a5, b5, hs5⟩ hS6
  have hzz := (((hz1.trans hz2).trans hz3).trans hz4).trans hz5
  have hS7 := S.perm hS6 (List.perm_append_comm (l₁ := [(kl, _)]) (l₂ := ls5))
  clear hS6
  repeat' walk_at "z"
  refine zIte ?_ ?_ <;> intro hb
  · repeat' walk_at "z"
    refine zNewT (by assumption) ?_
    intro tp z6 s7 hz6 htp hS8
    repeat' walk_at "z"
    refine zAssignSub ?_
    repeat' walk_at "z"
    refine zSetItemL (by assumption) (by decide) (by decide) (by simp) ?_
    intro s8 hS9
    repeat' walk_at "z"
    refine zAssignSub ?_
    repeat' walk_at "z"
    refine zSetItemL (by assumption) (by decide) (by decide) (by simp) ?_
    intro s9 hS10
    repeat' walk_at "z"
    refine zTupleOf (by assumption) (by walk_at "zg") (by simp) ?_
    intro T z7 s10 hz7 hT hS11
    exact ⟨z7, _, _, (hzz.trans hz6).trans hz7, ⟨[1, 2, 2048, d1, d2, 3, 4, -1, -1, 5], ⟨T, _, rfl, hT, .cons _ _ (.cons _ _ (.cons _ _ (.cons _ _ (.cons _ _ (.cons _ _ (.cons _ _ (.cons _ _ (.cons _ _ (.cons _ _ .nil))))))))), rfl⟩, key_ok a1 b1 a2 b2 (by decide) (by decide) (by decide) (by decide), hs5⟩, S.drop hS11⟩
  · repeat' walk_at "z"
    refine zTupleOf (by assumption) (by walk_at "zg") (by simp) ?_
    intro T z7 s10 hz7 hT hS11
    exact ⟨z7, _, _, hzz.trans hz7, ⟨[1, 2, 2048, d1, d2, 3, 4, d3, d4, 5], ⟨T, _, rfl, hT, .cons _ _ (.cons _ _ (.cons _ _ (.cons _ _ (.cons _ _ (.cons _ _ (.cons _ _ (.cons _ _ (.cons _ _ (.cons _ _ .nil))))))))), rfl⟩, key_ok a1 b1 a2 b2 (by omega) b3 (by omega) b4, hs5⟩, S.drop hS11⟩
end
theorem nat_xor : ∀ p q : Nat, p + q = (p ^^^ q) + 2 * (p &&& q) := by
  intro p
  induction p using Nat.strongRecOn with
  | _ p ih =>
    intro q
    by_cases hp : p = 0
    · subst hp; simp
    · have h := ih (p / 2) (by omega) (q / 2)
      have e1 : (p ^^^ q) / 2 = p / 2 ^^^ q / 2 := Nat.xor_div_two
      have e2 : (p &&& q) / 2 = p / 2 &&& q / 2 := Nat.and_div_two
      have e3 : (p ^^^ q) % 2 = 1 ↔ ¬ (p % 2 = 1 ↔ q % 2 = 1) := Nat.xor_mod_two_eq_one
      have e4 : (p &&& q) % 2 = 1 ↔ p % 2 = 1 ∧ q % 2 = 1 := Nat.and_mod_two_eq_one
      rw [← e1, ← e2] at h
      by_cases h5 : p % 2 = 1 ∧ q % 2 = 1
      · have := e4.mpr h5; omega
      · have : (p &&& q) % 2 = 0 := by
          rcases Nat.mod_two_eq_zero_or_one (p &&& q) with h | h
          · exact h
          · exact absurd (e4.mp h) h5
        omega
theorem xor_pp {x y : Int} (hx : 0 ≤ x) (hy : 0 ≤ y) : Builtin.bitXor x y = ((x.toNat ^^^ y.toNat : Nat) : Int) := by
  rw [bitXor_and, bitAnd_pp hx hy]
  have := nat_xor x.toNat y.toNat
  omega
theorem meet_bits {n R Q : Int} (hn : 0 ≤ n) (hR : 0 ≤ R) (hQ : 0 ≤ Q) : Builtin.bitAnd (Builtin.bitAnd (Builtin.bitXor (Builtin.bitAnd n R) (Builtin.bitAnd n Q)) R) Q = 0 := by
  rw [bitAnd_pp hn hR, bitAnd_pp hn hQ, xor_pp (by omega) (by omega), bitAnd_pp (by omega) hR, bitAnd_pp (by omega) hQ]
  simp only [Int.toNat_natCast]
  have : ((n.toNat &&& R.toNat) ^^^ (n.toNat &&& Q.toNat)) &&& R.toNat &&& Q.toNat = 0 := by
    apply Nat.eq_of_testBit_eq
    intro i
    simp only [Nat.testBit_and, Nat.testBit_xor, Nat.zero_testBit]
    cases n.toNat.testBit i <;> cases R.toNat.testBit i <;> cases Q.toNat.testBit i <;> rfl
  rw [this]; rfl
theorem in_bits {n R m r : Int} (hn : 0 ≤ n) (hR : 0 ≤ R) (hm : 0 ≤ m) (h1 : Builtin.bitAnd R m = m) (h2 : Builtin.bitAnd n R = r) : Builtin.bitAnd n m = Builtin.bitAnd r m := by
  subst h2
  have h1' : Builtin.bitAnd n m = Builtin.bitAnd n (Builtin.bitAnd R m) := by rw [h1]
  rw [h1', bitAnd_pp hR hm, bitAnd_pp hn hR, bitAnd_pp hn (by omega), bitAnd_pp (by omega) hm]
  simp only [Int.toNat_natCast]
  rw [Nat.and_assoc]
def bitsList : List Int := [12, 3, 8, 16]
theorem bits_mem {k : Int} (hk : Place k) : bitsOf k ∈ bitsList := by
  rcases hk with rfl | rfl | rfl | rfl <;> decide
def coverB : Bool := bitsList.all fun b => (List.range 8).all fun lo => (List.range 8).all fun hi => (List.range 8).all fun n =>
  !(decide (lo ≤ n) && decide (n ≤ hi)) || (rangeMasks lo hi b).any fun r => Builtin.bitAnd n r.2 == r.1
def posB : Bool := bitsList.all fun b => (List.range 8).all fun lo => (List.range 8).all fun hi => (rangeMasks lo hi b).all fun r => decide (0 ≤ r.1) && decide (0 ≤ r.2)
theorem coverB_ok : coverB = true := by decide +kernel
theorem posB_ok : posB = true := by decide +kernel
def maskList (b : Int) : List Int := [7, 3, 6, 1, gr b]
def lawB : Bool := bitsList.all fun b => (maskList b).all fun m => (List.range 8).all fun d => (List.range 9).all fun n => (!((List.range 16).any (lawBad (Builtin.bitAnd d m) m n))) == (Builtin.bitAnd n m == Builtin.bitAnd d m)
theorem lawB_ok : lawB = true := by decide +kernel
def endsB : Bool := bitsList.all fun b => (maskList b).all fun m => (List.range 8).all fun d => (List.range 9).all fun n =>
  !(Builtin.bitAnd n m == Builtin.bitAnd d m) || decide ((n : Int) > gr b) || (decide (Builtin.bitAnd d m ≤ n) && decide ((n : Int) ≤ Builtin.bitAnd d m + (gr b - m)))
theorem endsB_ok : endsB = true := by decide +kernel
theorem all_mem {α : Type} {p : α → Bool} {l : List α} (h : l.all p = true) {x : α} (hx : x ∈ l) : p x = true := List.all_eq_true.mp h x hx
def NumOk (k n : Int) : Prop := -1 ≤ n ∧ n ≤ 8 ∧ (k = 4 → n ≤ 7)
theorem NumOk.gr {k n : Int} (hk : Place k) (h : NumOk k n) : n ≤ gr (bitsOf k) := by
  obtain ⟨h1, h2, h3⟩ := h
  rcases hk with rfl | rfl | rfl | rfl
  · have : Mine.gr (bitsOf 3) = 4095 := by decide
    rw [this]; omega
  · have : Mine.gr (bitsOf 4) = 7 := by decide
    rw [this]; exact h3 rfl
  · have : Mine.gr (bitsOf 7) = 255 := by decide
    rw [this]; omega
  · have : Mine.gr (bitsOf 8) = 65535 := by decide
    rw [this]; omega
theorem gr_nn {k : Int} (hk : Place k) : 7 ≤ gr (bitsOf k) := by rcases hk with rfl | rfl | rfl | rfl <;> decide
theorem mask_nn {k v m : Int} (hk : Place k) (h : Drawn (.mask v m) (bitsOf k)) : m ∈ maskList (bitsOf k) ∧ 0 ≤ m := by
  have := gr_nn hk
  rcases h.1 with rfl | rfl | rfl | rfl | rfl
  · exact ⟨by simp [maskList], by decide⟩
  · exact ⟨by simp [maskList], by decide⟩
  · exact ⟨by simp [maskList], by decide⟩
  · exact ⟨by simp [maskList], by decide⟩
  · exact ⟨by simp [maskList], by omega⟩
theorem holds_nn {w : Wish} {n : Int} (h : w.holds n = true) (hn : -1 ≤ n) : 0 ≤ n := by
  rcases Int.lt_or_le n 0 with q | q
  · have : n = -1 := by omega
    subst this
    unfold Wish.holds at h; rw [if_pos rfl] at h; cases h
  · exact q
theorem holds_mask {v m n : Int} (h : (Wish.mask v m).holds n = true) : Builtin.bitAnd n m = v := by
  unfold Wish.holds at h
  split at h
  · cases h
  · simpa using h
theorem holds_rng {lo hi n : Int} (h : (Wish.rng lo hi).holds n = true) : lo ≤ n ∧ n ≤ hi := by
  unfold Wish.holds at h
  split at h
  · cases h
  · simpa using h
theorem cover {k n : Int} {w : Wish} (hk : Place k) (hw : Drawn w (bitsOf k)) (hn : NumOk k n) (h : w.holds n = true) : ∃ r ∈ w.masks (bitsOf k), 0 ≤ r.2 ∧ Builtin.bitAnd n r.2 = r.1 := by
  have h0 := holds_nn h hn.1
  cases w with
  | mask v m => exact ⟨(v, m), by simp [Wish.masks], (mask_nn hk hw).2, holds_mask h⟩
  | rng lo hi =>
    obtain ⟨a1, a2, a3⟩ := hw
    obtain ⟨b1, b2⟩ := holds_rng h
    obtain ⟨lo', rfl⟩ := Int.eq_ofNat_of_zero_le a1
    obtain ⟨hi', rfl⟩ := Int.eq_ofNat_of_zero_le (show 0 ≤ hi by omega)
    obtain ⟨n', rfl⟩ := Int.eq_ofNat_of_zero_le h0
    have hb := bits_mem hk
    have c1 := all_mem (all_mem (all_mem (all_mem coverB_ok hb) (List.mem_range.mpr (show lo' < 8 by omega))) (List.mem_range.mpr (show hi' < 8 by omega))) (List.mem_range.mpr (show n' < 8 by omega))
    have c2 := all_mem (all_mem (all_mem posB_ok hb) (List.mem_range.mpr (show lo' < 8 by omega))) (List.mem_range.mpr (show hi' < 8 by omega))
    have b1' : lo' ≤ n' := by omega
    have b2' : n' ≤ hi' := by omega
    have e : (!(decide (lo' ≤ n') && decide (n' ≤ hi'))) = false := by simp [b1', b2']
    try dsimp only at c1 c2
    rw [e, Bool.false_or, List.any_eq_true] at c1
    obtain ⟨r, hr, er⟩ := c1
    have := all_mem c2 hr
    simp at this
    exact ⟨r, hr, this.2, by simpa using er⟩
theorem meet_sound {k n : Int} {a b : Wish} (hk : Place k) (ha : Drawn a (bitsOf k)) (hb : Drawn b (bitsOf k)) (hn : NumOk k n) (h1 : a.holds n = true) (h2 : b.holds n = true) : meet a b (bitsOf k) = true := by
  have h0 := holds_nn h1 hn.1
  have key : ((a.masks (bitsOf k)).any fun r => (b.masks (bitsOf k)).any fun q => maskMeet r q) = true := by
    obtain ⟨r, hr, r1, r2⟩ := cover hk ha hn h1
    obtain ⟨q, hq, q1, q2⟩ := cover hk hb hn h2
    refine List.any_eq_true.mpr ⟨r, hr, List.any_eq_true.mpr ⟨q, hq, ?_⟩⟩
    unfold maskMeet
    rw [← r2, ← q2, meet_bits h0 r1 q1]; rfl
  cases a with
  | mask v m => exact key
  | rng l h =>
    cases b with
    | mask v m => exact key
    | rng l2 h2' =>
      obtain ⟨b1, b2⟩ := holds_rng h1
      obtain ⟨b3, b4⟩ := holds_rng h2
      show (decide (l ≤ h2') && decide (l2 ≤ h)) = true
      simp; omega
theorem ends_ok {k n : Int} {a : Wish} (hk : Place k) (ha : Drawn a (bitsOf k)) (hn : NumOk k n) (h1 : a.holds n = true) : (a.ends (bitsOf k)).1 ≤ n ∧ n ≤ (a.ends (bitsOf k)).2 := by
  have h0 := holds_nn h1 hn.1
  cases a with
  | rng lo hi => exact holds_rng h1
  | mask v m =>
    have hm := mask_nn hk ha
    obtain ⟨-, d, d0, d1, rfl⟩ := ha
    have hh := holds_mask h1
    obtain ⟨d', rfl⟩ := Int.eq_ofNat_of_zero_le d0
    obtain ⟨n', rfl⟩ := Int.eq_ofNat_of_zero_le h0
    have hg := hn.gr hk
    have c1 := all_mem (all_mem (all_mem (all_mem endsB_ok (bits_mem hk)) hm.1) (List.mem_range.mpr (show d' < 8 by omega))) (List.mem_range.mpr (show n' < 9 by have := hn.2.1; omega))
    try dsimp only at c1
    rw [hh] at c1
    have e : decide ((n' : Int) > gr (bitsOf k)) = false := decide_eq_false (by omega)
    rw [e] at c1
    simp at c1
    exact c1
theorem within_sound {k n : Int} {a b : Wish} (hk : Place k) (ha : Drawn a (bitsOf k)) (hb : Drawn b (bitsOf k)) (hn : NumOk k n) (h1 : a.holds n = true) (h2 : within a b (bitsOf k) = true) : b.holds n = true := by
  have h0 := holds_nn h1 hn.1
  have hne : ¬ n = -1 := by omega
  cases b with
  | rng lo hi =>
    have := ends_ok hk ha hn h1
    have h2 : (decide (lo ≤ (a.ends (bitsOf k)).1) && decide ((a.ends (bitsOf k)).2 ≤ hi)) = true := h2
    simp at h2
    show (if n = -1 then false else _) = true
    rw [if_neg hne]
    simp; omega
  | mask v m =>
    obtain ⟨r, hr, r1, r2⟩ := cover hk ha hn h1
    have h2 : ((a.masks (bitsOf k)).all fun r => maskIn r (v, m)) = true := h2
    have h3 := all_mem h2 hr
    unfold maskIn at h3
    simp at h3
    show (if n = -1 then false else _) = true
    rw [if_neg hne]
    have := in_bits h0 r1 (mask_nn hk hb).2 h3.1 r2
    simp only [this, h3.2, beq_self_eq_true]
theorem law_eq {k n : Int} {w : Wish} (hk : Place k) (hw : Drawn w (bitsOf k)) (hn : NumOk k n) : w.holds n = lawHolds w n := by
  unfold lawHolds Wish.holds
  by_cases h : n < 0
  · have : n = -1 := by have := hn.1; omega
    rw [if_pos h, if_pos this]
  · rw [if_neg h, if_neg (by omega)]
    cases w with
    | rng lo hi => rfl
    | mask v m =>
      have hm := mask_nn hk hw
      obtain ⟨-, d, d0, d1, rfl⟩ := hw
      obtain ⟨d', rfl⟩ := Int.eq_ofNat_of_zero_le d0
      obtain ⟨n', rfl⟩ := Int.eq_ofNat_of_zero_le (show 0 ≤ n by omega)
      have c1 := all_mem (all_mem (all_mem (all_mem lawB_ok (bits_mem hk)) hm.1) (List.mem_range.mpr (show d' < 8 by omega))) (List.mem_range.mpr (show n' < 9 by have := hn.2.1; omega))
      try dsimp only at c1
      exact (beq_iff_eq.mp c1).symm
theorem Drawn.ok {k : Int} {w : Wish} (hk : Place k) (h : Drawn w (bitsOf k)) : w.ok (bitsOf k) ∧ w.small := by
  have hg := gr_nn hk
  cases w with
  | rng lo hi => exact ⟨⟨h.1, h.2.1, by have := h.2.2; omega⟩, h⟩
  | mask v m =>
    have hm := mask_nn hk h
    obtain ⟨hc, d, d0, d1, rfl⟩ := h
    refine ⟨⟨hm.2, ?_, ?_⟩, trivial⟩
    · rcases hc with rfl | rfl | rfl | rfl | rfl <;> omega
    · rw [bitAnd_pp d0 hm.2, bitAnd_pp (by omega) hm.2]
      simp only [Int.toNat_natCast]
      rw [Nat.and_assoc, Nat.and_self]
theorem RuleG.Dr.ok {r : RuleG} (h : r.Dr) : r.Ok := ⟨h.1, fun p hp => ⟨(h.2.1 p hp).1, (h.2.1 p hp).2.ok (h.2.1 p hp).1⟩, h.2.2⟩
theorem KeyD.num {key : List Int} (h : KeyD key) {k : Int} (hk : Place k) : NumOk k (fld key k) := h k hk
theorem hit_eq {r : RuleG} {key : List Int} (h : r.Dr) (hk : KeyD key) : r.hit key = r.law key := by
  unfold RuleG.hit RuleG.law
  have : ∀ p ∈ r.ws, p.2.holds (fld key p.1) = lawHolds p.2 (fld key p.1) := fun p hp => law_eq (h.2.1 p hp).1 (h.2.1 p hp).2 (hk.num (h.2.1 p hp).1)
  rw [Bool.eq_iff_iff, List.all_eq_true, List.all_eq_true]
  exact ⟨fun q p hp => by rw [← this p hp]; exact q p hp, fun q p hp => by rw [this p hp]; exact q p hp⟩
theorem first_eq {gs : List RuleG} {key : List Int} (h : ∀ g ∈ gs, g.Dr) (hk : KeyD key) : firstHit gs key = lawFirst gs key := by
  unfold firstHit lawFirst
  induction gs with
  | nil => rfl
  | cons g r ih =>
    rw [List.findIdx?_cons, List.findIdx?_cons, hit_eq (h g (.head _)) hk, ih fun q hq => h q (.tail _ hq)]
def rowHit (key : List Int) (r : TRow) : Bool := r.2.all fun p => p.2.holds (fld key p.1)
def rowsFirst (key : List Int) (rows : List TRow) : Option Int := (rows.find? (rowHit key)).map (·.1)
def RowsD (n : Nat) (rows : List TRow) : Prop := ∀ r ∈ rows, (0 ≤ r.1 ∧ r.1 < n) ∧ ∀ p ∈ r.2, Place p.1 ∧ Drawn p.2 (bitsOf p.1)
def RowsSem (gs : List RuleG) (key : List Int) (rows : List TRow) : Prop := ∀ r ∈ rows, rowHit key r = hitAt gs key r.1
theorem so_keep {key : List Int} {field : Int} {w : Wish} {r r' : TRow} (hk : KeyD key) (hf : Place field) (hw : Drawn w (bitsOf field)) (hd : ∀ p ∈ r.2, Place p.1 ∧ Drawn p.2 (bitsOf p.1)) (hh : w.holds (fld key field) = true) (e : soRow field w r = some r') : r'.1 = r.1 ∧ rowHit key r' = rowHit key r := by
  unfold soRow at e
  split at e
  · cases e
    refine ⟨rfl, ?_⟩
    unfold rowHit
    rw [Bool.eq_iff_iff, List.all_eq_true, List.all_eq_true]
    refine ⟨fun q p hp => ?_, fun q p hp => q p (List.mem_filter.mp hp).1⟩
    by_cases hkp : keepP field w p = true
    · exact q p (List.mem_filter.mpr ⟨hp, hkp⟩)
    · rename_i hposs
      have h1 := List.all_eq_true.mp hposs p hp
      unfold keepP at hkp
      unfold possP at h1
      have hpf : p.1 = field := by
        by_cases h : p.1 = field
        · exact h
        · exfalso; apply hkp; simp [h]
      simp [hpf] at hkp h1
      have hwi : within w p.2 (bitsOf field) = true := hkp h1
      have hd' := (hd p hp).2
      rw [hpf] at hd' ⊢
      exact within_sound hf hw hd' (hk.num hf) hh hwi
  · cases e
theorem so_drop {key : List Int} {field : Int} {w : Wish} {r : TRow} (hk : KeyD key) (hf : Place field) (hw : Drawn w (bitsOf field)) (hd : ∀ p ∈ r.2, Place p.1 ∧ Drawn p.2 (bitsOf p.1)) (hh : w.holds (fld key field) = true) (e : soRow field w r = none) : rowHit key r = false := by
  unfold soRow at e
  split at e
  · cases e
  · rename_i hn
    cases q : rowHit key r with
    | false => rfl
    | true =>
      exfalso
      apply hn
      refine List.all_eq_true.mpr fun p hp => ?_
      unfold possP
      by_cases h : p.1 = field
      · have h1 := List.all_eq_true.mp q p hp
        have hd' := (hd p hp).2
        rw [h] at hd' h1
        simp [h, meet_sound hf hd' hw (hk.num hf) h1 hh]
      · simp [h]
theorem first_so {n : Nat} {key : List Int} {field : Int} {w : Wish} (hk : KeyD key) (hf : Place field) (hw : Drawn w (bitsOf field)) (hh : w.holds (fld key field) = true) : ∀ {rows : List TRow}, RowsD n rows → rowsFirst key (rowsIfSo rows field w) = rowsFirst key rows
  | [], _ => rfl
  | r :: rows, hd => by
    have ih := first_so (n := n) hk hf hw hh (rows := rows) fun q hq => hd q (.tail _ hq)
    unfold rowsFirst rowsIfSo at ih ⊢
    rw [List.filterMap_cons]
    cases e : soRow field w r with
    | none =>
      have h1 := so_drop hk hf hw (hd r (.head _)).2 hh e
      simp only [List.find?_cons, h1]
      exact ih
    | some r' =>
      obtain ⟨h1, h2⟩ := so_keep hk hf hw (hd r (.head _)).2 hh e
      simp only [List.find?_cons, h2]
      cases rowHit key r with
      | true => simp [h1]
      | false => exact ih
theorem first_not {n : Nat} {key : List Int} {field : Int} {w : Wish} (hk : KeyD key) (hf : Place field) (hw : Drawn w (bitsOf field)) (hh : w.holds (fld key field) = false) : ∀ {rows : List TRow}, RowsD n rows → rowsFirst key (rowsIfNot rows field w) = rowsFirst key rows
  | [], _ => rfl
  | r :: rows, hd => by
    have ih := first_not (n := n) hk hf hw hh (rows := rows) fun q hq => hd q (.tail _ hq)
    unfold rowsFirst rowsIfNot at ih ⊢
    rw [List.filter_cons]
    cases e : r.2.all (notP field w) with
    | true =>
      simp only [if_true, List.find?_cons]
      cases rowHit key r with
      | true => rfl
      | false => exact ih
    | false =>
      have h1 : rowHit key r = false := by
        cases q : rowHit key r with
        | false => rfl
        | true =>
          obtain ⟨p, hp, hpn⟩ := List.all_eq_false.mp e
          unfold notP at hpn
          simp at hpn
          have h1 := List.all_eq_true.mp q p hp
          have hd' := ((hd r (.head _)).2 p hp).2
          rw [hpn.1] at hd' h1
          have := within_sound hf hd' hw (hk.num hf) h1 hpn.2
          rw [hh] at this; cases this
      simp only [Bool.false_eq_true, if_false, List.find?_cons, h1]
      exact ih
theorem sem_so {gs : List RuleG} {n : Nat} {key : List Int} {field : Int} {w : Wish} {rows : List TRow} (hk : KeyD key) (hf : Place field) (hw : Drawn w (bitsOf field)) (hh : w.holds (fld key field) = true) (hd : RowsD n rows) (hs : RowsSem gs key rows) : RowsSem gs key (rowsIfSo rows field w) := by
  intro r hr
  obtain ⟨a, ha, e⟩ := List.mem_filterMap.mp hr
  obtain ⟨h1, h2⟩ := so_keep hk hf hw (hd a ha).2 hh e
  rw [h2, h1]; exact hs a ha
theorem sem_not {gs : List RuleG} {key : List Int} {field : Int} {w : Wish} {rows : List TRow} (hs : RowsSem gs key rows) : RowsSem gs key (rowsIfNot rows field w) := fun r hr => hs r (List.mem_filter.mp hr).1
theorem RowsD.so {n : Nat} {rows : List TRow} {field : Int} {w : Wish} (h : RowsD n rows) : RowsD n (rowsIfSo rows field w) := by
  intro r hr
  obtain ⟨a, ha, e⟩ := List.mem_filterMap.mp hr
  unfold soRow at e
  split at e
  · cases e; exact ⟨(h a ha).1, fun p hp => (h a ha).2 p (List.mem_filter.mp hp).1⟩
  · cases e
theorem RowsD.no {n : Nat} {rows : List TRow} {field : Int} {w : Wish} (h : RowsD n rows) : RowsD n (rowsIfNot rows field w) := fun r hr => h r (List.mem_filter.mp hr).1
theorem openRows_mem {gs : List RuleG} {r : TRow} (h : r ∈ openRows gs) : ∃ (i : Nat) (g : RuleG), gs[i]? = some g ∧ r = ((i : Int), g.ws) := by
  obtain ⟨i, hi⟩ := List.mem_iff_getElem?.mp h
  have hl : i < gs.length := by
    rcases Nat.lt_or_ge i gs.length with q | q
    · exact q
    · rw [List.getElem?_eq_none (by rw [openRows_length]; exact q)] at hi; cases hi
  have e := openRows_at (rs := gs) (i := i) (r := gs[i]) (by simp [hl])
  rw [e] at hi
  cases hi
  exact ⟨i, gs[i], by simp [hl], rfl⟩
theorem RowsD.opened {gs : List RuleG} (h : ∀ g ∈ gs, g.Dr) : RowsD gs.length (openRows gs) := by
  intro r hr
  obtain ⟨i, g, hg, rfl⟩ := openRows_mem hr
  have hi := (List.getElem?_eq_some_iff.mp hg).1
  exact ⟨⟨by simp, by simp [hi]⟩, (h g (List.mem_of_getElem? hg)).2.1⟩
theorem sem_open {gs : List RuleG} {key : List Int} : RowsSem gs key (openRows gs) := by
  intro r hr
  obtain ⟨i, g, hg, rfl⟩ := openRows_mem hr
  unfold hitAt
  rw [Int.toNat_natCast, hg]; rfl
theorem first_open_aux {key : List Int} : ∀ (gs : List RuleG) (k : Nat), (((gs.zipIdx k).map fun p => ((p.2 : Int), p.1.ws)).find? (rowHit key)).map (·.1) = (gs.findIdx? (·.hit key)).map fun i => ((i + k : Nat) : Int)
  | [], _ => rfl
  | g :: r, k => by
    have ih := first_open_aux (key := key) r (k + 1)
    rw [List.zipIdx_cons, List.map_cons, List.find?_cons, List.findIdx?_cons]
    have e : rowHit key ((k : Int), g.ws) = g.hit key := rfl
    dsimp only
    rw [e]
    cases g.hit key with
    | true => simp
    | false =>
      simp only [Bool.false_eq_true, if_false]
      rw [ih, Option.map_map]
      congr 1
      funext i
      simp only [Function.comp]
      congr 1
      omega
theorem first_open {gs : List RuleG} {key : List Int} : rowsFirst key (openRows gs) = optI (firstHit gs key) := by
  have := first_open_aux (key := key) gs 0
  unfold rowsFirst openRows optI firstHit
  rw [this]; rfl
def NodeI (nodes : List Node) (wait : List Wait) (spec : List (List TRow)) (i : Nat) (rows : List TRow) : Node → Prop
  | .pend => ∃ w ∈ wait, w.1 = (i : Int)
  | .leaf none => rows = []
  | .leaf (some p) => ∃ rest, rows = (p, []) :: rest
  | .lst ps => ps = rows.map (·.1)
  | .ask f w y n => Place f ∧ Drawn w (bitsOf f) ∧ (i : Int) < y ∧ y < nodes.length ∧ (i : Int) < n ∧ n < nodes.length ∧ spec[y.toNat]? = some (rowsIfSo rows f w) ∧ spec[n.toNat]? = some (rowsIfNot rows f w)
structure TI (gs : List RuleG) (nodes : List Node) (wait : List Wait) (spec : List (List TRow)) : Prop where
  len : spec.length = nodes.length
  root : spec[0]? = some (openRows gs)
  rowsD : ∀ rows ∈ spec, RowsD gs.length rows
  wt : ∀ w ∈ wait, 0 ≤ w.1 ∧ w.1 < nodes.length ∧ spec[w.1.toNat]? = some w.2
  nd : (wait.map (·.1)).Nodup
  node : ∀ (i : Nat) nd rows, nodes[i]? = some nd → spec[i]? = some rows → NodeI nodes wait spec i rows nd
theorem TI.init {gs : List RuleG} (h : ∀ g ∈ gs, g.Dr) : TI gs [.pend] [(0, openRows gs)] [openRows gs] where
  len := rfl
  root := rfl
  rowsD := fun rows hr => by rw [List.mem_singleton.mp hr]; exact RowsD.opened h
  wt := fun w hw => by rw [List.mem_singleton.mp hw]; exact ⟨by simp, by simp, rfl⟩
  nd := by simp
  node := fun i nd rows hi hs => by
    cases i with
    | zero => simp at hi; subst hi; exact ⟨_, .head _, rfl⟩
    | succ i => simp at hi
theorem TI.lay {gs : List RuleG} {nodes : List Node} {wait : List Wait} {spec : List (List TRow)} {num : Int} {rows : List TRow} {nd : Node} (t : TI gs nodes (wait ++ [(num, rows)]) spec) (hnd : ∀ nodes' wait', nodes'.length = nodes.length → NodeI nodes' wait' spec num.toNat rows nd) :
    TI gs (nodes.set num.toNat nd) wait spec where
  len := by rw [List.length_set]; exact t.len
  root := t.root
  rowsD := t.rowsD
  wt := fun w hw => by rw [List.length_set]; exact t.wt w (List.mem_append_left _ hw)
  nd := by
    have := t.nd
    rw [List.map_append] at this
    exact (List.nodup_append.mp this).1
  node := fun i nd' rows' hi hs => by
    have W := t.wt (num, rows) (by simp)
    by_cases e : i = num.toNat
    · subst e
      rw [List.getElem?_set_self (by have := W.1; have := W.2.1; omega)] at hi
      cases hi
      have : rows' = rows := by rw [W.2.2] at hs; cases hs; rfl
      subst this
      exact hnd _ _ (by simp)
    · rw [List.getElem?_set_ne (Ne.symm e)] at hi
      have old := t.node i nd' rows' hi hs
      cases nd' with
      | pend =>
        obtain ⟨w, hw, ew⟩ := old
        rcases List.mem_append.mp hw with hw | hw
        · exact ⟨w, hw, ew⟩
        · rw [List.mem_singleton.mp hw] at ew
          exact absurd (by have : num = (i : Int) := ew
                           rw [this]; simp) e
      | leaf p => cases p <;> exact old
      | lst ps => exact old
      | ask f w y n =>
        obtain ⟨a1, a2, a3, a4, a5, a6, a7, a8⟩ := old
        exact ⟨a1, a2, a3, by rw [List.length_set]; exact a4, a5, by rw [List.length_set]; exact a6, a7, a8⟩
theorem TI.ask {gs : List RuleG} {nodes : List Node} {wait : List Wait} {spec : List (List TRow)} {num : Int} {rows : List TRow} {f : Int} {w : Wish} (t : TI gs nodes (wait ++ [(num, rows)]) spec) (hf : Place f) (hw : Drawn w (bitsOf f)) :
    TI gs ((nodes ++ [Node.pend, Node.pend]).set num.toNat (.ask f w nodes.length (nodes.length + 1))) (wait ++ [((nodes.length : Int), rowsIfSo rows f w), ((nodes.length : Int) + 1, rowsIfNot rows f w)]) (spec ++ [rowsIfSo rows f w, rowsIfNot rows f w]) := by
  have W := t.wt (num, rows) (by simp)
  have hmem : rows ∈ spec := List.mem_of_getElem? W.2.2
  have hD := t.rowsD rows hmem
  have hL := t.len
  have hnn : num.toNat < nodes.length := by have := W.1; have := W.2.1; simp at *; omega
  have sy : (spec ++ [rowsIfSo rows f w, rowsIfNot rows f w])[nodes.length]? = some (rowsIfSo rows f w) := by rw [← hL]; simp
  have sn : (spec ++ [rowsIfSo rows f w, rowsIfNot rows f w])[nodes.length + 1]? = some (rowsIfNot rows f w) := by rw [← hL]; simp
  have old : ∀ i, i < nodes.length → (spec ++ [rowsIfSo rows f w, rowsIfNot rows f w])[i]? = spec[i]? := fun i hi => List.getElem?_append_left (by rw [hL]; exact hi)
  exact {
    len := by simp [hL]
    root := by
      have := t.root
      rw [List.getElem?_append_left (List.getElem?_eq_some_iff.mp this).1]; exact this
    rowsD := fun r hr => by
      rcases List.mem_append.mp hr with hr | hr
      · exact t.rowsD r hr
      · rcases List.mem_cons.mp hr with rfl | hr
        · exact hD.so
        · rw [List.mem_singleton.mp hr]; exact hD.no
    wt := fun w' hw' => by
      rw [List.length_set, List.length_append]
      simp only [List.length_cons, List.length_nil]
      rcases List.mem_append.mp hw' with hw' | hw'
      · have o := t.wt w' (List.mem_append_left _ hw')
        refine ⟨o.1, by have := o.2.1; omega, ?_⟩
        rw [old _ (by have := o.1; have := o.2.1; omega)]; exact o.2.2
      · rcases List.mem_cons.mp hw' with rfl | hw'
        · exact ⟨by simp, by simp; omega, by simpa using sy⟩
        · rw [List.mem_singleton.mp hw']
          refine ⟨by simp <;> omega, by simp <;> omega, ?_⟩
          have : ((nodes.length : Int) + 1).toNat = nodes.length + 1 := by omega
          show _[((nodes.length : Int) + 1).toNat]? = _
          rw [this]; exact sn
    nd := by
      have n0 := t.nd
      rw [List.map_append] at n0
      have n1 := (List.nodup_append.mp n0).1
      rw [List.map_append]
      refine List.nodup_append.mpr ⟨n1, ?_, fun a ha b hb e => ?_⟩
      · simp; omega
      · obtain ⟨q, hq, rfl⟩ := List.mem_map.mp ha
        have o := (t.wt q (List.mem_append_left _ hq)).2.1
        simp at hb
        rcases hb with hb | hb <;> omega
    node := fun i nd' rows' hi hs => by
      by_cases e : i = num.toNat
      · subst e
        rw [List.getElem?_set_self (by simp; omega)] at hi
        cases hi
        rw [old _ hnn] at hs
        have : rows' = rows := by rw [W.2.2] at hs; cases hs; rfl
        subst this
        have hc : ((num.toNat : Nat) : Int) = num := Int.toNat_of_nonneg W.1
        have hlt : num < nodes.length := W.2.1
        refine ⟨hf, hw, by rw [hc]; exact hlt, by simp <;> omega, by rw [hc]; omega, by simp <;> omega, by simpa using sy, ?_⟩
        have : ((nodes.length : Int) + 1).toNat = nodes.length + 1 := by omega
        rw [this]; exact sn
      · rw [List.getElem?_set_ne (Ne.symm e)] at hi
        rcases Nat.lt_or_ge i nodes.length with hlt | hge
        · rw [List.getElem?_append_left hlt] at hi
          rw [old i hlt] at hs
          have o := t.node i nd' rows' hi hs
          cases nd' with
          | pend =>
            obtain ⟨w', hw', ew⟩ := o
            rcases List.mem_append.mp hw' with hw' | hw'
            · exact ⟨w', List.mem_append_left _ hw', ew⟩
            · rw [List.mem_singleton.mp hw'] at ew
              have ew : num = (i : Int) := ew
              exact absurd (by rw [ew]; simp) e
          | leaf p => cases p <;> exact o
          | lst ps => exact o
          | ask f' w' y n =>
            obtain ⟨a1, a2, a3, a4, a5, a6, a7, a8⟩ := o
            refine ⟨a1, a2, a3, by simp; omega, a5, by simp; omega, ?_, ?_⟩
            · rw [old _ (by omega)]; exact a7
            · rw [old _ (by omega)]; exact a8
        · have hi2 : i = nodes.length ∨ i = nodes.length + 1 := by
            have := (List.getElem?_eq_some_iff.mp hi).1
            simp at this; omega
          rcases hi2 with rfl | rfl
          · have : nd' = .pend := by simpa using hi.symm
            subst this
            exact ⟨_, List.mem_append_right _ (.head _), rfl⟩
          · have : nd' = .pend := by simpa using hi.symm
            subst this
            exact ⟨_, List.mem_append_right _ (.tail _ (.head _)), by simp⟩ }
theorem Reach.ti {most : Int} {gs : List RuleG} (h : ∀ g ∈ gs, g.Dr) {nodes : List Node} {wait : List Wait} (r : Reach most gs nodes wait) : ∃ spec, TI gs nodes wait spec := by
  induction r with
  | init => exact ⟨_, TI.init h⟩
  | @step nodes wait num rows _ ih =>
    obtain ⟨spec, t⟩ := ih
    have W := t.wt (num, rows) (by simp)
    have hmem : rows ∈ spec := List.mem_of_getElem? W.2.2
    have hD := t.rowsD rows hmem
    unfold growN growW
    match rows, t, hD with
    | [], t, _ => exact ⟨spec, t.lay fun _ _ _ => rfl⟩
    | (place, []) :: rest, t, _ => exact ⟨spec, t.lay fun _ _ _ => ⟨rest, rfl⟩⟩
    | (place, (f, w) :: ws) :: rest, t, hD =>
      have hp := (hD _ (.head _)).2 (f, w) (.head _)
      simp only
      split
      · exact ⟨spec, t.lay fun _ _ _ => rfl⟩
      · exact ⟨_, t.ask hp.1 hp.2⟩
theorem TI.nodesOk {gs : List RuleG} {nodes : List Node} {spec : List (List TRow)} (t : TI gs nodes [] spec) : NodesOk gs nodes := by
  intro i nd hi
  have hl := (List.getElem?_eq_some_iff.mp hi).1
  obtain ⟨rows, hs⟩ : ∃ rows, spec[i]? = some rows := ⟨spec[i]'(by rw [t.len]; exact hl), by simp⟩
  have o := t.node i nd rows hi hs
  cases nd with
  | pend => obtain ⟨w, hw, _⟩ := o; cases hw
  | leaf p => trivial
  | lst ps =>
    intro p hp
    have o : ps = rows.map (·.1) := o
    rw [o] at hp
    obtain ⟨r, hr, rfl⟩ := List.mem_map.mp hp
    exact (t.rowsD rows (List.mem_of_getElem? hs) r hr).1
  | ask f w y n =>
    obtain ⟨a1, a2, a3, a4, a5, a6, a7, a8⟩ := o
    exact ⟨a1, a3, a4, a5, a6⟩
theorem find_map_sem {gs : List RuleG} {key : List Int} : ∀ {rows : List TRow}, RowsSem gs key rows → (rows.map (·.1)).find? (hitAt gs key) = rowsFirst key rows
  | [], _ => rfl
  | r :: rows, h => by
    have ih := find_map_sem (gs := gs) (key := key) (rows := rows) fun q hq => h q (.tail _ hq)
    have e := h r (.head _)
    unfold rowsFirst at ih ⊢
    rw [List.map_cons, List.find?_cons, List.find?_cons, e]
    cases hitAt gs key r.1 with
    | true => rfl
    | false => exact ih
theorem TI.look {gs : List RuleG} {nodes : List Node} {spec : List (List TRow)} {key : List Int} (t : TI gs nodes [] spec) (hk : KeyD key) : ∀ (k i : Nat) (rows : List TRow), spec[i]? = some rows → RowsSem gs key rows → nodes.length ≤ i + k → lookRes gs nodes key k i = rowsFirst key rows
  | 0, i, rows, hs, _, hl => by
    have := (List.getElem?_eq_some_iff.mp hs).1
    rw [t.len] at this; omega
  | k + 1, i, rows, hs, hsem, hl => by
    have hlt := (List.getElem?_eq_some_iff.mp hs).1
    rw [t.len] at hlt
    obtain ⟨nd, hi⟩ : ∃ nd, nodes[i]? = some nd := ⟨nodes[i], by simp⟩
    have o := t.node i nd rows hi hs
    have hD := t.rowsD rows (List.mem_of_getElem? hs)
    rw [lookRes, hi]
    cases nd with
    | pend => obtain ⟨w, hw, _⟩ := o; cases hw
    | leaf p =>
      cases p with
      | none => have o : rows = [] := o; rw [o]; rfl
      | some p => obtain ⟨rest, o⟩ := o; rw [o]; rfl
    | lst ps => have o : ps = rows.map (·.1) := o; rw [o]; exact find_map_sem hsem
    | ask f w y n =>
      obtain ⟨a1, a2, a3, a4, a5, a6, a7, a8⟩ := o
      simp only
      cases hh : w.holds (fld key f) with
      | true =>
        simp only [if_true]
        rw [t.look hk k y.toNat _ a7 (sem_so hk a1 a2 hh hD hsem) (by omega)]
        exact first_so hk a1 a2 hh hD
      | false =>
        simp only [Bool.false_eq_true, if_false]
        rw [t.look hk k n.toNat _ a8 (sem_not hsem) (by omega)]
        exact first_not hk a1 a2 hh hD
theorem tree_right {most : Int} {gs : List RuleG} {nodes : List Node} {key : List Int} (h : ∀ g ∈ gs, g.Dr) (hk : KeyD key) (r : Reach most gs nodes []) : NodesOk gs nodes ∧ lookRes gs nodes key nodes.length 0 = optI (lawFirst gs key) := by
  obtain ⟨spec, t⟩ := r.ti h
  refine ⟨t.nodesOk, ?_⟩
  rw [t.look hk nodes.length 0 _ t.root sem_open (by omega), first_open, first_eq h hk]
open PySem.SeqAt in
theorem eq_ints {A : Around} {s : Shared} {q T : Addr} {vs us : List Value} {ns : List Int} (hq : s.heap.get? q = some (tupO vs)) (hT : s.heap.get? T = some (tupO us)) (h1 : IntsAre vs ns) (h2 : IntsAre us ns) (hu : A.units < cLine) : RcAt A s (.ref q) (.ref T) true := by
  have l1 := h1.length
  have l2 := h2.length
  have key := RcAt.tuples (A := A) (e := fun _ => true) (isTuple_of hq) (isTuple_of hT) hu (fun j k1 k2 => by
    have k1 : j < vs.length := by simpa using k1
    obtain ⟨n, hn⟩ : ∃ n, ns[j]? = some n := ⟨ns[j]'(by omega), by simp⟩
    obtain ⟨t, ht⟩ := ints_at h1 hn
    obtain ⟨u, hu⟩ := ints_at h2 hn
    have e1 : vs.toArray[j] = .int n t := by
      have := (List.getElem?_eq_some_iff.mp ht).2; simpa using this
    have e2 : us.toArray[j]'(by assumption) = .int n u := by
      have := (List.getElem?_eq_some_iff.mp hu).2; simpa using this
    rw [e1, e2]
    have := EqAt.int_int (A := A.in1) (s := s) n t n u
    simpa using this)
  have e : ((List.range (min vs.toArray.size us.toArray.size)).all (fun _ => true) && vs.toArray.size == us.toArray.size) = true := by
    simp; omega
  rw [e] at key; exact key
section
variable {c : Cx} {z : FM}
open PySem.SeqAt in
theorem zEqCounts {A : Around} {y : FM} {L : Addr} {m : Str → Option Value} {ls : List (Addr × Obj)} {s : Shared} {p p' q T : Addr} {vs us : List Value} {ns : List Int} {i : Int} {t t' : Tok} {Q : Value → Shared → Prop} (hS : S c z y L m ls s)
    (hp : z p = some (tupO [.ref q, .int i t])) (hp' : z p' = some (tupO [.ref T, .int i t'])) (hq : z q = some (tupO vs)) (hT : z T = some (tupO us)) (h1 : IntsAre vs ns) (h2 : IntsAre us ns) (hu : A.units + 5 < cLine) (h : Q (.bool true) s) :
    W c A (compareOp .Eq (.ref p) (.ref p')) Q s := by
  have key := RcAt.tuples (A := A) (e := fun _ => true) (isTuple_of (hS.fz _ _ hp)) (isTuple_of (hS.fz _ _ hp')) (by omega) (fun j k1 k2 => by
    have k1 : j < 2 := by simpa using k1
    have : j = 0 ∨ j = 1 := by omega
    rcases this with rfl | rfl
    · show EqAt A.in1 s (.ref q) (.ref T) true
      by_cases e : q = T
      · subst e; exact EqAt.same _
      · exact EqAt.of_refs e (eq_ints (hS.fz _ _ hq) (hS.fz _ _ hT) h1 h2 (by show A.units + 1 < _; omega))
    · show EqAt A.in1 s (.int i t) (.int i t') true
      have := EqAt.int_int (A := A.in1) (s := s) i t i t'
      simpa using this)
  exact zRc key (by exact h)
open PySem.SeqAt in
theorem zNeOpt {A : Around} {s : Shared} {v u : Value} {o : Option Int} {Q : Value → Shared → Prop} (hv : OptAt v o) (hu : OptAt u o) (h : Q (.bool false) s) : W c A (compareOp .NotEq v u) Q s := by
  cases o with
  | none =>
    have e1 : v = .none := hv
    have e2 : u = .none := hu
    subst e1 e2
    exact zRcNe RcNeAt.none_none h
  | some i =>
    obtain ⟨t, rfl⟩ := hv
    obtain ⟨t', rfl⟩ := hu
    exact zNeI (by simpa using h)
open PySem.SeqAt in
theorem zNeAct {A : Around} {y : FM} {L : Addr} {m : Str → Option Value} {ls : List (Addr × Obj)} {s : Shared} {v : Value} {Q : Value → Shared → Prop} (hS : S c z y L m ls s) (hv : ActAt z v) (hu : A.units + 1 < cLine) (h : Q (.bool false) s) : W c A (compareOp .NotEq v v) Q s := by
  rcases hv with ⟨t, rfl⟩ | ⟨t, rfl⟩ | ⟨p, t1, t2, rfl, hp⟩
  · exact zNeS (by simpa using h)
  · exact zNeS (by simpa using h)
  · have key := RcNeAt.tuples (A := A) (e := fun _ => true) (isTuple_of (hS.fz _ _ hp)) (isTuple_of (hS.fz _ _ hp)) (by omega) (fun j k1 k2 => EqAt.same _)
    exact zRcNe key (by exact h)
theorem act_at {gs : List RuleG} {ow : Value} {vs : List Value} (hv : All2 (DRowAt c z) vs gs) (how : ActAt z ow) (p : Option Nat) (hp : ∀ i, p = some i → i < gs.length) : ActAt z (actOf gs ow p) := by
  cases p with
  | none => exact how
  | some i =>
    obtain ⟨g, hg⟩ : ∃ g, gs[i]? = some g := ⟨gs[i]'(hp i rfl), by simp⟩
    obtain ⟨v, _, _, _, _, _, _, ha⟩ := hv.at hg
    show ActAt z (match gs[i]? with | some r => r.act | none => .none)
    rw [hg]; exact ha
def KeysAt (z : FM) (v : Value) (keys : List (List Int)) : Prop := ∃ l vs n, v = .ref l ∧ z l = some (lstO vs n) ∧ All2 (KeyAt z) vs keys
theorem spec_law_right (ok : c.Ok) {rv kv ow : Value} {gs : List RuleG} {keys : List (List Int)} {most : Int} {tm : Tok} (hrv : DRows c z rv gs) (hkv : KeysAt z kv keys) (hg : ∀ g ∈ gs, g.Dr) (hkd : ∀ k ∈ keys, KeyD k) (hn : gs.length ≤ 64) (hm1 : 1 ≤ most) (hm : most ≤ 256)
    (how : (∃ t, ow = .str (Str.ofString "let") t) ∨ (∃ t, ow = .str (Str.ofString "drop") t)) :
    Fn c 8 z 351 [rv, kv, .int most tm, ow] [] [] (fun z' r ls => ls = [] ∧ r = .bool true) := by
  have how2 : ∃ o t, ow = .str o t := by rcases how with ⟨t, e⟩ | ⟨t, e⟩ <;> exact ⟨_, _, e⟩
  have howA : ActAt z ow := by rcases how with h | h; exact .inl h; exact .inr (.inl h)
  have hgo : ∀ g ∈ gs, g.Ok := fun g h => (hg g h).ok
  have hrv0 := hrv
  obtain ⟨l, vs, n, rfl, hl, hvs⟩ := hrv0
  obtain ⟨kl, kvs, kn, rfl, hkl, hkvs⟩ := hkv
  have hlen := hvs.length
  refine Fn.plain (binds := [(Str.ofString "rows", .ref l), (Str.ofString "keys", .ref kl), (Str.ofString "most", .int most tm), (Str.ofString "otherwise", ow)]) ok (by k_is) (by k_is) (fun _ _ => BindsTo.of_eq rfl) (locs rfl) (by decide) rfl rfl rfl ?_
  intro A y L s R hS
  have hh := R.1
  have hu : A.units + 5 < cLine := by have := R.2.2; omega
  dsimp only [updsOf] at hS
  refine zAssignComp (cl := []) rfl rfl (by decide) rfl ?_
  repeat' walk_at "z"
  refine zIterList (by assumption) hl ?_
  intro I o s1 st hS1
  refine comp_go (Itr.list (z := z) hl) hh hS1 st (by decide) rfl (by omega)
    (fun i z3 m3 ls3 acc => ls3 = [] ∧ All2 (RuleAt c z3) acc (gs.take i)) ⟨rfl, .nil⟩ ?_ ?_
  · rintro C i v z3 y3 m3 ls3 s3 acc hi hv hz3 ⟨rfl, hacc⟩ hS2
    obtain ⟨g, hgi, hra⟩ := hvs.get hv
    obtain ⟨p, wd, rfl, hp, hwd, hact⟩ := hra.mono hz3
    have hgg := hgo g (List.mem_of_getElem? hgi)
    repeat' walk_at "z"
    refine zNew (ls0 := []) (rest := []) (Out := fun x dx z' ls' => ls' = [] ∧ RuleAt c z' (.ref x) g) ok (by assumption) (by k_is) (by k_is) (by k_is) (n := 2) (R.le (by decide)) (fun x dx z1 hz1 hx => by
      intro A y L m rest s Q R2 hS2 h
      exact spec_init_rule ok hx (hwd.mono hz1) (hact.mono hz1) (by exact hgg) A y L m rest s Q R2 hS2 fun r z' ls' s' hz ho hS' => h r z' ls' s' hz ho hS') ?_
    rintro x dx z4 ls4 s4 hz4 hx4 ⟨rfl, hra4⟩ hS3
    exact ⟨z4, _, [], hz4, hS3, rfl, by rw [take_snoc hgi]; exact (hacc.imp fun _ _ x => x.mono hz4).snoc hra4⟩
  · rintro D2 C k2 z3 m3 mC ls3 s3 oC acc hz3 ⟨rfl, hacc⟩ yC hC hS2
    refine comp_use hC hS2 yC fun s4 hS3 => ?_
    rw [hlen, List.take_length] at hacc
    have hz4 := S.le_freeze hS3
    have hS4 := S.freeze hS3
    clear hS1 hS2 hS3
    obtain ⟨z4, hz4', hD2⟩ : ∃ z4, z4 = z3.put D2 (lstO acc k2) ∧ z4 D2 = some (lstO acc k2) := ⟨_, rfl, FM.put_self⟩
    rw [← hz4'] at hS4 hz4
    have hrl : RulesAt c z4 (.ref D2) gs := ⟨D2, acc, k2, rfl, hD2, hacc.imp fun _ _ x => x.mono hz4⟩
    refine zAssignT2 (names := [Str.ofString "tree", Str.ofString "listed"]) ?_
    repeat' walk_at "z"
    refine zNew (ls0 := []) (rest := []) (Out := fun x dx z' ls' => ls' = [] ∧ ∃ nodes, Reach most gs nodes [] ∧ TreeAt c z' (.ref x) gs nodes) ok (by assumption) (by k_is) (by k_is) (by k_is) (n := 6) R (fun x dx z1 hz1 hx => by
      intro A y L m rest s Q R2 hS2 h
      exact spec_init_tree ok hx (hrl.mono hz1) hgo (by omega) hm A y L m rest s Q R2 hS2 fun r z' ls' s' hz ho hS' => h r z' ls' s' hz ho hS') ?_
    rintro xt dxt z5 ls5 s5 hz5 hxt ⟨rfl, nodes, hreach, htree⟩ hS5
    have hinv := hreach.inv hgo (by omega)
    have hnm := hinv.most
    have hn1 := hinv.one
    repeat' walk_at "z"
    refine zNew (ls0 := []) (rest := []) (Out := fun x dx z' ls' => ∃ hl, LstState c z' gs ow dx hl (List.replicate gs.length 0) 0 ls') ok (by assumption) (by k_is) (by k_is) (by k_is) (n := 2) (R.le (by decide)) (fun x dx z1 hz1 hx => by
      intro A y L m rest s Q R2 hS2 h
      exact spec_init_list ok hx ((hrl.mono hz5).mono hz1) hn how2 A y L m rest s Q R2 hS2 fun r z' ls' s' hz ho hS' => h r z' ls' s' hz ho hS') ?_
    rintro xl dxl z6 ls6 s6 hz6 hxl ⟨hll, hL6⟩ hS6
    rw [List.append_nil] at hS6
    repeat' walk_at "z"
    refine zNewT (by assumption) ?_
    intro tp z7 s7 hz7 htp hS7
    refine zUnpackItems hS7 htp R.1 rfl ?_
    intro s8 hS8
    clear hS5 hS6 hS7
    repeat' walk_at "z"
    refine zAssignT2 (names := [Str.ofString "hits", Str.ofString "missed"]) ?_
    repeat' walk_at "z"
    refine zNewL (by assumption) ?_
    intro zl s9 hS9
    repeat' walk_at "z"
    refine zLenL (by assumption) (by walk_at "zg") (by omega) ?_
    intro t9 s10 hS10 _
    rw [hlen]
    repeat' walk_at "z"
    refine zMulL (n := gs.length) (by assumption) (by walk_at "zg") (by omega) ?_
    intro hH s11 hS11
    have hS12 := S.drop (S.second hS11)
    clear hS11 hS9
    repeat' walk_at "z"
    refine zNewT (by assumption) ?_
    intro tp2 z8 s12 hz8 htp2 hS13
    refine zUnpackItems hS13 htp2 R.1 rfl ?_
    intro s13 hS14
    clear hS13
    repeat' walk_at "z"
    have hz78 := hz8
    have e48 : FM.le z4 z8 := ((hz5.trans hz6).trans hz7).trans hz8
    have e08 : FM.le z z8 := (hz3.trans hz4).trans e48
    have hrl8 := hrl.mono e48
    have hrv8 := hrv.mono e08
    have htree8 := htree.mono ((hz6.trans hz7).trans hz8)
    have hxl8 : z8 xl = some (instObj 281 dxl) := (hz7.trans hz8) _ _ hxl
    have hL8 := hL6.mono (hz7.trans hz8)
    have hkl8 := e08 _ _ hkl
    have hkvs8 := hkvs.imp fun _ _ x => KeyAt.mono e08 x
    have hvs8 := hvs.imp fun _ _ x => DRowAt.mono e08 x
    have hl8 := e08 _ _ hl
    have how8 := howA.mono e08
    clear hz78 e48 htree hxl hL6 hkvs hvs hrl hrv hl hkl hz3 hz4 hz5 hz6 hz7 hz8
    refine zForList hkl8 hh (by assumption) (fun i z2 m2 ls2 => m2 (Str.ofString "rows") = some (.ref l) ∧ m2 (Str.ofString "rules") = some (.ref D2) ∧ m2 (Str.ofString "tree") = some (.ref xt) ∧ m2 (Str.ofString "listed") = some (.ref xl) ∧
        m2 (Str.ofString "otherwise") = some ow ∧ m2 (Str.ofString "most") = some (.int most tm) ∧ m2 (Str.ofString "hits") = some (.ref hH) ∧
        ∃ missed tmm hits hv nh lsL, m2 (Str.ofString "missed") = some (.int missed tmm) ∧ ls2 = (hH, lstO hv nh) :: lsL ∧ IntsAre hv hits ∧ hits.length = gs.length ∧ LstState c z2 gs ow dxl hll hits missed lsL)
      (fun _ _ _ _ => False) ⟨by walk_at "lk", by walk_at "lk", by walk_at "lk", by walk_at "lk", by walk_at "lk", by walk_at "lk", by walk_at "lk", 0, _, _, _, _, _, by walk_at "lk", rfl, ints_rep _, by simp, hL8⟩ ?_ ?_ ?_
    · rintro i kv z2 y2 m2 ls2 s14 hi hkvi hz2 ⟨e1, e2, e3, e4, e5, e6, e7, missed, tmm, hits, hv, nh, lsL, e8, rfl, hhv, hhl, hLst⟩ hS15
      obtain ⟨key, hki, hka⟩ := hkvs8.get hkvi
      have hkd1 := hkd key (List.mem_of_getElem? hki)
      have hright := tree_right (key := key) hg hkd1 hreach
      have hfe := first_eq hg hkd1
      have hpb : ∀ i, lawFirst gs key = some i → i < gs.length := fun i e => (List.findIdx?_eq_some_iff_getElem.mp e).1
      obtain ⟨x', dx', od', rl', most', tm', nl', wl', ns', n1', ex, hx', hdx', hF', hrl', hnl', hns'⟩ := htree8.mono hz2
      cases ex
      have htree2 := htree8.mono hz2
      have hxl2 := hz2 _ _ hxl8
      have hl2 := hz2 _ _ hl8
      repeat' walk_at "z"
      refine zFn (ls0 := []) (spec_law_first ok (hrv8.mono hz2) (hka.mono hz2) hg (by omega)) (R.le (by decide)) (by assumption) ?_
      rintro dv z3 ls3 s15 hz3 ⟨rfl, hdue⟩ hS16
      walk_at "z"
      refine zIf ?_
      obtain ⟨odl, rll, tml, hvl, nll, rfl, hFl, hrll, hhvl⟩ := hLst
      generalize hp : lawFirst gs key = p at hdue hright hpb hfe
      refine zCut (P := fun b s' => b = false ∧ ∃ z', FM.le z3 z' ∧ S c z' y2 L (upd (upd m2 (Str.ofString "key") kv) (Str.ofString "due") dv) [(hH, lstO hv nh), (dxl, odl), (hll, lstO hvl nll)] s') ?_ ?_
      · repeat' walk_at "z"
        refine zFn (ls0 := []) (spec_first_match ok ((hrl8.mono hz2).mono hz3) ((hka.mono hz2).mono hz3) hgo) (R.le (by decide)) (by assumption) ?_
        rintro fv z4 ls4 s16 hz4 ⟨rfl, hfv⟩ hS17
        rw [hfe] at hfv
        repeat' walk_at "z"
        refine zNeOpt hfv hdue ?_
        repeat' walk_at "z"
        have hx4 := hz4 _ _ (hz3 _ _ hx')
        have hdx4 := hz4 _ _ (hz3 _ _ hdx')
        repeat' walk_at "z"
        refine zFn (ls0 := []) (spec_look ok ((htree2.mono hz3).mono hz4) (((hka.mono hz2).mono hz3).mono hz4) hgo hright.1 hn1 (by omega) (by omega)) (R.le (by decide)) (by assumption) ?_
        rintro r z5 ls5 s17 hz5 ⟨rfl, tp5, v5, n5, t5, rfl, htp5, hv5⟩ hS18
        rw [hright.2] at hv5
        repeat' walk_at "z"
        refine zNeOpt hv5 hdue ?_
        repeat' walk_at "z"
        exact ⟨rfl, z5, (hz4.trans hz5), by assumption⟩
      rintro b s16 ⟨rfl, z4, hz4, hS17⟩
      have hz24 := hz2.trans (hz3.trans hz4)
      have hxl4 := hz4 _ _ (hz3 _ _ hxl2)
      have hl4 := hz4 _ _ (hz3 _ _ hl2)
      have hrl4 := hrll.mono (hz3.trans hz4)
      have hka4 := hka.mono hz24
      have hvs4 := hvs8.imp fun _ _ x => DRowAt.mono hz24 x
      have hact4 := act_at hvs4 (how8.mono hz24) p hpb
      clear hz24
      refine zIteF rfl ?_
      refine zApp0 ?_
      refine zIf ?_
      refine zCut (P := fun b s' => b = false ∧ ∃ z' ls', FM.le z4 z' ∧ S c z' y2 L (upd (upd m2 (Str.ofString "key") kv) (Str.ofString "due") dv) ((hH, lstO hv nh) :: ls') s' ∧ ∃ hv2, LstState c z' gs ow dxl hll hv2 (bumpM missed p) ls' ∧ hv2 = bump hits p) ?_ ?_
      · repeat' walk_at "z"
        refine zFn (ls0 := [(dxl, odl), (hll, lstO hvl nll)]) (rest := [(hH, lstO hv nh)]) (spec_asked ok hxl4 ⟨odl, rll, tml, hvl, nll, rfl, hFl, hrl4, hhvl⟩ hka4 hgo hn how2 hhl) (R.le (by decide)) (S.rot3 (by assumption)) ?_
        rintro r z5 ls5 s17 hz5 ⟨rfl, hL5⟩ hS18
        rw [hfe] at hL5 ⊢
        have hS19 := S.perm hS18 (List.perm_append_comm (l₁ := [(hH, lstO hv nh)]) (l₂ := ls5))
        clear hS18 hS17
        repeat' walk_at "z"
        refine zCut (P := fun v s' => v = actOf gs ow p ∧ S c z5 y2 L (upd (upd m2 (Str.ofString "key") kv) (Str.ofString "due") dv) ((hH, lstO hv nh) :: ls5) s') ?_ ?_
        · refine wpAny_IfExp ?_
          cases p with
          | none =>
            have e : dv = .none := hdue
            subst e
            repeat' walk_at "z"
            refine zIsNone1 ?_
            repeat' walk_at "z"
            exact ⟨rfl, by assumption⟩
          | some j =>
            obtain ⟨td, rfl⟩ : ∃ t, dv = .int (j : Int) t := hdue
            have hj := hpb j rfl
            obtain ⟨g, hgj⟩ : ∃ g, gs[j]? = some g := ⟨gs[j], by simp⟩
            obtain ⟨v, hvj, pr, wdr, rfl, hpr, -, -⟩ := hvs4.at hgj
            have hres : actOf gs ow (some j) = g.act := by show (match gs[j]? with | some r => r.act | none => .none) = _; rw [hgj]
            rw [hres]
            repeat' walk_at "z"
            refine zIsNone (by simp) ?_
            repeat' walk_at "z"
            refine zItemL (l := l) (by walk_at "zg") (by omega) (by omega) (by simpa using hvj) ?_
            repeat' walk_at "z"
            exact ⟨rfl, by assumption⟩
        · rintro v s18 ⟨rfl, hS20⟩
          clear hS19
          repeat' walk_at "z"
          refine zNeAct hS20 (hact4.mono hz5) (by omega) ?_
          repeat' walk_at "z"
          exact ⟨rfl, z5, ls5, hz5, hS20, _, hL5, rfl⟩
      rintro b s17 ⟨rfl, z5, ls5, hz5, hS18, hv2, hL5, rfl⟩
      clear hS17
      refine zIteF rfl ?_
      refine zApp0 ?_
      cases p with
      | none =>
        have e : dv = .none := hdue
        subst e
        repeat' walk_at "z"
        refine zIsNone1 ?_
        repeat' walk_at "z"
        exact ⟨z5, _, _, hz3.trans (hz4.trans hz5), by assumption, by walk_at "lk", by walk_at "lk", by walk_at "lk", by walk_at "lk", by walk_at "lk", by walk_at "lk", by walk_at "lk", missed + 1, _, hits, hv, nh, ls5, by walk_at "lk", rfl, hhv, hhl, hL5⟩
      | some j =>
        obtain ⟨td, rfl⟩ : ∃ t, dv = .int (j : Int) t := hdue
        have hj := hpb j rfl
        have hjl : j < hits.length := by omega
        have hvlen := hhv.length
        obtain ⟨th, hth⟩ := ints_at hhv (show hits[j]? = some (hits.getD j 0) by rw [List.getD_eq_getElem?_getD]; simp [hjl])
        repeat' walk_at "z"
        refine zIsNone (by simp) ?_
        repeat' walk_at "z"
        refine zItemL (l := hH) (by walk_at "zg") (by omega) (by omega) (by simpa using hth) ?_
        repeat' walk_at "z"
        refine zSetItemL (by assumption) (by omega) (by omega) (by omega) ?_
        intro s18 hS19
        repeat' walk_at "z"
        exact ⟨z5, _, _, hz3.trans (hz4.trans hz5), by assumption, by walk_at "lk", by walk_at "lk", by walk_at "lk", by walk_at "lk", by walk_at "lk", by walk_at "lk", by walk_at "lk", missed, tmm, hits.set j (hits.getD j 0 + 1), _, nh, ls5, by walk_at "lk", rfl, ints_set hhv j, by simp [hhl], hL5⟩
    · rintro z2 m2 ls2 s14 hz2 ⟨e1, e2, e3, e4, e5, e6, e7, missed, tmm, hits, hv, nh, lsL, e8, rfl, hhv, hhl, hLst⟩ hS15
      have hxl2 := hz2 _ _ hxl8
      have htree2 := htree8.mono hz2
      obtain ⟨x', dx', od', rl', most', tm', nl', wl', ns', n1', ex, hx', hdx', hF', hrl', hnl', hns'⟩ := htree2
      cases ex
      have htree2 := htree8.mono hz2
      obtain ⟨odl, rll, tml, hvl, nll, rfl, hFl, hrll, hhvl⟩ := hLst
      have hvlen := hhv.length
      repeat' walk_at "z"
      refine zFn (ls0 := [(dxl, odl), (hll, lstO hvl nll)]) (rest := [(hH, lstO hv nh)]) (spec_counts ok hxl2 ⟨odl, rll, tml, hvl, nll, rfl, hFl, hrll, hhvl⟩ (by omega)) (R.le (by decide)) (S.rot3 (by assumption)) ?_
      rintro r z3 ls3 s15 hz3 ⟨rfl, pc, qc, tc, vc, rfl, hpc, hqc, hvc⟩ hS16
      repeat' walk_at "z"
      refine zTupleOf (by assumption) (by walk_at "zg") (by omega) ?_
      intro T z4 s16 hz4 hT hS17
      repeat' walk_at "z"
      refine zNewT (by assumption) ?_
      intro tpl z5 s17 hz5 htpl hS18
      repeat' walk_at "z"
      refine zEqCounts hS18 (hz5 _ _ (hz4 _ _ hpc)) htpl (hz5 _ _ (hz4 _ _ hqc)) (hz5 _ _ hT) hvc hhv hu ?_
      have hx5 := hz5 _ _ (hz4 _ _ (hz3 _ _ hx'))
      have hdx5 := hz5 _ _ (hz4 _ _ (hz3 _ _ hdx'))
      repeat' walk_at "z"
      refine zFn (ls0 := []) (spec_size ok (((htree2.mono hz3).mono hz4).mono hz5) (by omega)) (R.le (by decide)) (by assumption) ?_
      rintro r z6 ls6 s18 hz6 ⟨rfl, ts, rfl⟩ hS19
      repeat' walk_at "z"
      refine zIteT (by simp; omega) ?_
      repeat' walk_at "z"
      refine zMax (by assumption) hh ?_
      intro tmx s19 hS20
      repeat' walk_at "z"
      refine ⟨z6, [], _, (e08.trans hz2).trans (((hz3.trans hz4).trans hz5).trans hz6), ⟨rfl, ?_⟩, S.bare (by assumption)⟩
      show Value.bool _ = _
      congr 1
      have : max 1 most = most := by omega
      rw [this] at hnm
      by_cases hmm : most > 1
      · rw [if_pos hmm]; simpa using hnm
      · rw [if_neg hmm]; simp; omega
    · rintro r z2 m2 ls2 s4 hz2 hf
      exact hf.elim
end
section
variable {c : Cx} {z : FM}
theorem spec_law_pool (ok : c.Ok) {l : Addr} {o : Obj} {vs : List Value} {ns : List Int} {nn : Nat} {tk : Tok} (hl : z l = some o) (hc : o.cls = .type "list") (hd : o.data = .seq vs.toArray nn) (hi : IntsAre vs ns) (hn : ns.length ≤ 63) :
    Fn c 1 z 292 [.ref l, .int 0 tk] [] [] (fun z' r ls => ∃ sl, r = .ref sl ∧ SrcLs sl ls) := by
  have hlen := hi.length
  refine Fn.plain (binds := [(Str.ofString "script", .ref l), (Str.ofString "k", .int 0 tk)]) ok (by k_is) (by k_is) (fun _ _ => BindsTo.of_eq rfl) (locs rfl) (by decide) rfl rfl rfl ?_
  intro A y L s R hS
  have hh := R.1
  dsimp only [updsOf] at hS
  walk_at "z"
  refine zCut (P := fun v s' => ∃ x t, v = .int x t ∧ S c z y L (upd (upd no (Str.ofString "script") (.ref l)) (Str.ofString "k") (.int 0 tk)) [] s') ?_ ?_
  · refine wpAny_IfExp ?_
    repeat' walk_at "z"
    have isL : ∀ {s' : Shared}, S c z y L (upd (upd no (Str.ofString "script") (.ref l)) (Str.ofString "k") (.int 0 tk)) [] s' → s'.heap.IsList l vs.toArray := fun h => ⟨o, h.fz _ _ hl, hc, nn, hd⟩
    have es : (vs.toArray.size : Int) = vs.length := by simp
    refine Calls.call_len_list (isL (by assumption)) (by rw [es]; omega) ?_
    have hS2 := S.toks hS (t := s.toks + 1 + 1)
    rw [es]
    clear hS
    repeat' walk_at "z"
    refine zIte ?_ ?_ <;> intro hb
    · have hpos : 0 < vs.length := by simpa using hb
      obtain ⟨x, hx⟩ : ∃ x, ns[0]? = some x := ⟨ns[0]'(by omega), by simp⟩
      obtain ⟨t, ht⟩ := ints_at hi hx
      repeat' walk_at "z"
      refine tail_any (isL (by assumption)).typeIs slot_list_getitem.lookup (wpAny_getItem_list (isL (by assumption)) (by decide) (by decide) (by simpa using ht) ?_) (by with_unfolding_all rfl)
      exact ⟨x, t, rfl, by assumption⟩
    · repeat' walk_at "z"
      exact ⟨0, _, rfl, by assumption⟩
  · rintro v s1 ⟨x, t, rfl, hS1⟩
    clear hS
    repeat' walk_at "z"
    refine zIntI ?_
    repeat' walk_at "z"
    refine zIntI ?_
    repeat' walk_at "z"
    refine zMax (by assumption) hh ?_
    intro tl s2 hS2
    have hlarge : 0 ≤ (if (-1 - x : Int) > x then (-1 - x) else x) := by split <;> omega
    generalize (if (-1 - x : Int) > x then (-1 - x) else x) = large at hS2 hlarge ⊢
    repeat' walk_at "z"
    refine zPow (by assumption) (by decide) (by decide +kernel) ?_
    intro _ _ _
    repeat' walk_at "z"
    refine zIntB (by assumption) ?_
    intro _ _ _
    repeat' walk_at "z"
    refine zMul (by assumption) (IntMulOk.of_right (by split <;> decide)) ?_
    intro ta _ _
    have ha : 0 ≤ large * (if decide (large ≥ 10 ^ (18 : Int).toNat) = true then 1 else 0) := by split <;> omega
    generalize large * (if decide (large ≥ 10 ^ (18 : Int).toNat) = true then 1 else 0) = a at ha ⊢
    repeat' walk_at "z"
    refine zMod (by assumption) (by decide) hh ?_
    intro _ _ _
    repeat' walk_at "z"
    refine zMul (by assumption) (IntMulOk.of_left (by decide)) ?_
    intro _ _ _
    repeat' walk_at "z"
    refine zMul (by assumption) (IntMulOk.of_right (by decide)) ?_
    intro _ _ _
    repeat' walk_at "z"
    refine zIntI ?_
    repeat' walk_at "z"
    refine zMod (by assumption) (by decide) hh ?_
    intro _ _ _
    repeat' walk_at "z"
    refine zNewL (by assumption) ?_
    intro sl s3 hS3
    exact ⟨z, _, _, FM.le.refl z, ⟨sl, rfl, a, _, _, _, _, ha, fm0 _ (by decide), fm1 _ (by decide), rfl⟩, hS3⟩
end
theorem KeysAt.mono {z z' : FM} (h : FM.le z z') {v : Value} {keys : List (List Int)} : KeysAt z v keys → KeysAt z' v keys := fun ⟨l, vs, n, a, b, d⟩ => ⟨l, vs, n, a, h _ _ b, d.imp fun _ _ x => x.mono h⟩
theorem law_t3 {c : Cx} (ok : c.Ok) {oc : Value} {od : Option Addr} {osl : Array (Option Value)} {name qual : Str} {params : Arguments} {body : List Stmt} {scope : Scope} {dV kV doc pm cdv ct : Value} {an : Option Addr}
    (ho : (hd.heap_1 c.w.params).lookup 356 = some ⟨oc, od, .func (fnX name qual params body scope [] dV kV doc pm an cdv ct), osl⟩) {z y : FM} {L a sl : Addr} {cd : Value} {s : Shared} {A : Around} {m : Str → Option Value} {oC : Obj} {ls : List (Addr × Obj)}
    (R : Room A 8) (hS : S c z y L m ls s) (hC : z (L + 1) = some oC) (hCd : oC.data = .cell (some (.ref sl))) (hs : SrcLs sl ls) :
    W c A (execs (body.drop 3) (envX qual scope L a cd (cellsFrom (L + 1) scope.names []))) (fun fl s' => fl = .ret (.bool true) ∧ ∃ z ls m', S c z y L m' ls s') s := by
  have hh := R.1
  have ho2 := (show (hd.heap_1 c.w.params).lookup 356 = some ⟨_, _, .func (fnX _ _ _ _ _ [] _ _ _ _ _ _ _), _⟩ by k_is)
  have ho3 := ho2.symm.trans ho
  clear ho ho2
  cases ho3
  simp only [List.drop]
  refine zAssignComp (cl := [(Str.ofString "source", L + 1)]) rfl rfl (by decide) rfl ?_
  repeat' walk_at "z"
  refine zFn (ls0 := ls) (rest := []) (spec_take ok hs (by decide) (by decide)) (R.le (by decide)) (by rw [List.append_nil]; assumption) ?_
  rintro r z1 ls1 s1 hz1 ⟨d, t1, rfl, a1, b1, hs1⟩ hS1
  rw [List.append_nil] at hS1
  obtain ⟨n, rfl⟩ : ∃ n : Nat, d = (n : Int) := ⟨d.toNat, by omega⟩
  repeat' walk_at "z"
  rw [show (1 + (n : Int)) = ((1 + n : Nat) : Int) by omega]
  refine zRange (by with_reducible assumption) ?_
  intro rr tr1 tr2 z2 s2 hz2 hrr hS2
  repeat' walk_at "z"
  refine zIterRange (by with_reducible assumption) hrr (by omega) ?_
  intro I o s3 st hS3
  refine comp_go (Itr.range (z := z2) (b := 0) (n := 1 + n)) hh hS3 st (by decide) rfl (by omega)
    (fun i z3 m3 ls3 acc => SrcLs sl ls3 ∧ ∃ gs, All2 (DRowAt c z3) acc gs ∧ gs.length = i ∧ ∀ g ∈ gs, g.Dr) ⟨hs1, [], .nil, rfl, by simp⟩ ?_ ?_
  · rintro C i v z3 y3 m3 ls3 s4 acc hi ⟨ti, rfl⟩ hz3 ⟨hs3, gs, hgs, hgl, hgd⟩ hS4
    repeat' walk_at "z"
    refine zFn (ls0 := ls3) (rest := []) (spec_law_rule ok hs3) (R.le (by decide)) (by rw [List.append_nil]; assumption) ?_
    rintro r z4 ls4 s5 hz4 ⟨g, hg, hgdr, hs4⟩ hS5
    rw [List.append_nil] at hS5
    exact ⟨z4, _, _, hz4, hS5, hs4, gs ++ [g], (hgs.imp fun _ _ x => x.mono hz4).snoc hg, by rw [List.length_append, hgl]; rfl, fun q hq => (List.mem_append.mp hq).elim (hgd q) fun h => List.mem_singleton.mp h ▸ hgdr⟩
  · rintro D C k z3 m3 mC ls3 s4 oC2 acc hz3 ⟨hs3, gs, hgs, hgl, hgd⟩ yC hC2 hS4
    refine comp_use hC2 hS4 yC fun s5 hS5 => ?_
    have h5 := S.le_freeze hS5
    have hS6 := S.freeze hS5
    (try clear hS1); (try clear hS2); (try clear hS3); clear hS4 hS5
    obtain ⟨z4, hz4', hD4⟩ : ∃ z4, z4 = z3.put D (lstO acc k) ∧ z4 D = some (lstO acc k) := ⟨_, rfl, FM.put_self⟩
    rw [← hz4'] at hS6 h5
    have hrv : DRows c z4 (.ref D) gs := ⟨D, acc, k, rfl, hD4, hgs.imp fun _ _ x => x.mono h5⟩
    refine zAssignComp (cl := [(Str.ofString "source", L + 1)]) rfl rfl (by decide) rfl ?_
    repeat' walk_at "z"
    rw [show (4 : Int) = ((4 : Nat) : Int) from rfl]
    refine zRange (by with_reducible assumption) ?_
    intro rr2 tr3 tr4 z5 s6 hz5 hrr2 hS7
    repeat' walk_at "z"
    refine zIterRange (by with_reducible assumption) hrr2 (by omega) ?_
    intro I2 o2 s7 st2 hS8
    refine comp_go (Itr.range (z := z5) (b := 0) (n := 4)) hh hS8 st2 (by decide) rfl (by omega)
      (fun i z3 m3 ls3 acc => SrcLs sl ls3 ∧ ∃ keys, All2 (KeyAt z3) acc keys ∧ ∀ g ∈ keys, KeyD g) ⟨hs3, [], .nil, by simp⟩ ?_ ?_
    · rintro C i v z6 y3 m6 ls6 s8 acc hi ⟨ti, rfl⟩ hz6 ⟨hs6, keys, hks, hkd⟩ hS9
      repeat' walk_at "z"
      refine zFn (ls0 := ls6) (rest := []) (spec_law_key ok hs6) (R.le (by decide)) (by rw [List.append_nil]; assumption) ?_
      rintro r z7 ls7 s9 hz7 ⟨g, hg, hgdr, hs7⟩ hS10
      rw [List.append_nil] at hS10
      exact ⟨z7, _, _, hz7, hS10, hs7, keys ++ [g], (hks.imp fun _ _ x => x.mono hz7).snoc hg, fun q hq => (List.mem_append.mp hq).elim (hkd q) fun h => List.mem_singleton.mp h ▸ hgdr⟩
    · rintro D2 C2 k2 z6 m6 mC2 ls6 s8 oC3 acc2 hz6 ⟨hs6, keys, hks, hkd⟩ yC2 hC3 hS9
      refine comp_use hC3 hS9 yC2 fun s9 hS10 => ?_
      have h6 := S.le_freeze hS10
      have hS11 := S.freeze hS10
      (try clear hS6); (try clear hS7); (try clear hS8); clear hS9 hS10
      obtain ⟨z7, hz7', hD7⟩ : ∃ z7, z7 = z6.put D2 (lstO acc2 k2) ∧ z7 D2 = some (lstO acc2 k2) := ⟨_, rfl, FM.put_self⟩
      rw [← hz7'] at hS11 h6
      have hkv : KeysAt z7 (.ref D2) keys := ⟨D2, acc2, k2, rfl, hD7, hks.imp fun _ _ x => x.mono h6⟩
      repeat' walk_at "z"
      refine zNewL (by with_reducible assumption) ?_
      intro fl s10 hS12
      have h8 := S.le_freeze hS12
      have hS13 := S.freeze hS12
      (try clear hS11); (try clear hS12)
      obtain ⟨z8, hz8', hfl⟩ : ∃ z8, z8 = z7.put fl _ ∧ z8 fl = some _ := ⟨_, rfl, FM.put_self⟩
      rw [← hz8'] at hS13 h8
      repeat' walk_at "z"
      refine zFn (ls0 := ls6) (rest := []) (spec_one ok hs6 hfl (by simp) (by simp)) (R.le (by decide)) (by rw [List.append_nil]; assumption) ?_
      rintro r z9 ls9 s11 hz9 ⟨⟨i, hi⟩, hs9⟩ hS14
      rw [List.append_nil] at hS14
      have hmost : ∃ (most : Int) (tm : Tok), r = .int most tm ∧ 1 ≤ most ∧ most ≤ 256 := by
        match i, hi with
        | 0, e => cases e; exact ⟨_, _, rfl, by decide, by decide⟩
        | 1, e => cases e; exact ⟨_, _, rfl, by decide, by decide⟩
        | 2, e => cases e; exact ⟨_, _, rfl, by decide, by decide⟩
        | 3, e => cases e; exact ⟨_, _, rfl, by decide, by decide⟩
        | n + 4, e => simp at e
      obtain ⟨most, tm, rfl, hm1, hm2⟩ := hmost
      (try clear hS13); (try clear hfl)
      repeat' walk_at "z"
      refine zNewL (by with_reducible assumption) ?_
      intro fl2 s12 hS15
      have h10 := S.le_freeze hS15
      have hS16 := S.freeze hS15
      (try clear hS14); (try clear hS15)
      obtain ⟨z10, hz10', hfl2⟩ : ∃ z10, z10 = z9.put fl2 _ ∧ z10 fl2 = some _ := ⟨_, rfl, FM.put_self⟩
      rw [← hz10'] at hS16 h10
      repeat' walk_at "z"
      refine zFn (ls0 := ls9) (rest := []) (spec_one ok hs9 hfl2 (by simp) (by simp)) (R.le (by decide)) (by rw [List.append_nil]; assumption) ?_
      rintro r z11 ls11 s13 hz11 ⟨⟨i2, hi2⟩, hs11⟩ hS17
      rw [List.append_nil] at hS17
      have how : (∃ t, r = .str (Str.ofString "let") t) ∨ (∃ t, r = .str (Str.ofString "drop") t) := by
        match i2, hi2 with
        | 0, e => cases e; exact .inl ⟨_, rfl⟩
        | 1, e => cases e; exact .inr ⟨_, rfl⟩
        | n + 2, e => simp at e
      repeat' walk_at "z"
      have h47 := (hz5.trans hz6).trans h6
      have h711 := (h8.trans hz9).trans (h10.trans hz11)
      refine zFn (ls0 := []) (rest := ls11) (spec_law_right ok (hrv.mono (h47.trans h711)) (hkv.mono h711) hgd hkd (by omega) hm1 hm2 how) R (by assumption) ?_
      rintro r z12 ls12 s14 hz12 ⟨rfl, rfl⟩ hS18
      exact ⟨rfl, z12, _, _, hS18⟩
theorem law_t2 {c : Cx} (ok : c.Ok) {oc : Value} {od : Option Addr} {osl : Array (Option Value)} {name qual : Str} {params : Arguments} {body : List Stmt} {scope : Scope} {dV kV doc pm cdv ct : Value} {an : Option Addr}
    (ho : (hd.heap_1 c.w.params).lookup 356 = some ⟨oc, od, .func (fnX name qual params body scope [] dV kV doc pm an cdv ct), osl⟩) {z y : FM} {L a l : Addr} {cd : Value} {s : Shared} {A : Around} {m : Str → Option Value} {wc o : Obj} {vs : List Value} {ns : List Int} {nn : Nat}
    (R : Room A 8) (hS : S c z y L m [(L + 1, wc)] s) (hw : wc.data = .cell none) (hm : m (Str.ofString "script") = some (.ref l)) (hl : z l = some o) (hc : o.cls = .type "list") (hd' : o.data = .seq vs.toArray nn) (hi : IntsAre vs ns) (hn : ns.length ≤ 63) :
    W c A (execs (body.drop 2) (envX qual scope L a cd (cellsFrom (L + 1) scope.names []))) (fun fl s' => fl = .ret (.bool true) ∧ ∃ z ls m', S c z y L m' ls s') s := by
  have hh := R.1
  have ht : ∀ {z y : FM} {s : Shared} {m : Str → Option Value} {sl : Addr} {oC : Obj} {ls : List (Addr × Obj)}, S c z y L m ls s → z (L + 1) = some oC → oC.data = .cell (some (.ref sl)) → SrcLs sl ls →
      W c A (execs (body.drop 3) (envX qual scope L a cd (cellsFrom (L + 1) scope.names []))) (fun fl s' => fl = .ret (.bool true) ∧ ∃ z ls m', S c z y L m' ls s') s := fun h1 h2 h3 h4 => law_t3 ok ho R h1 h2 h3 h4
  have ho2 := (show (hd.heap_1 c.w.params).lookup 356 = some ⟨_, _, .func (fnX _ _ _ _ _ [] _ _ _ _ _ _ _), _⟩ by k_is)
  have ho3 := ho2.symm.trans ho
  clear ho ho2
  cases ho3
  simp only [List.drop] at ht ⊢
  repeat' walk_at "z"
  refine zFn (ls0 := []) (rest := [(L + 1, wc)]) (spec_law_pool ok hl hc hd' hi hn) (R.le (by decide)) (by assumption) ?_
  rintro r z1 ls1 s1 hz1 ⟨sl, rfl, hs1⟩ hS1
  have hS2 := S.perm hS1 (List.perm_append_comm (l₁ := [(L + 1, wc)]) (l₂ := ls1))
  clear hS1
  refine eStoreC hS2 hw ?_
  intro oC s2 hoC hS3
  have h3 := S.le_freeze hS3
  have hS4 := S.freeze hS3
  (try clear hS); clear hS2 hS3
  obtain ⟨z2, hz2', hC⟩ : ∃ z2, z2 = z1.put (L + 1) oC ∧ z2 (L + 1) = some oC := ⟨_, rfl, FM.put_self⟩
  rw [← hz2'] at hS4 h3
  exact ht hS4 hC hoC hs1
theorem key_fixed : ∀ k ∈ ([[1, 2, 3, 3, 1, -1, -1, -1, -1, -1]] : List (List Int)), KeyD k := by
  intro key hk
  rw [List.mem_singleton] at hk
  subst hk
  intro k hk
  rcases hk with rfl | rfl | rfl | rfl
  · show (-1 : Int) ≤ 3 ∧ (3 : Int) ≤ 8 ∧ _; exact ⟨by decide, by decide, fun h => by cases h⟩
  · show (-1 : Int) ≤ 1 ∧ (1 : Int) ≤ 8 ∧ ((4 : Int) = 4 → (1 : Int) ≤ 7); exact ⟨by decide, by decide, fun _ => by decide⟩
  · show (-1 : Int) ≤ -1 ∧ (-1 : Int) ≤ 8 ∧ _; exact ⟨by decide, by decide, fun h => by cases h⟩
  · show (-1 : Int) ≤ -1 ∧ (-1 : Int) ≤ 8 ∧ _; exact ⟨by decide, by decide, fun h => by cases h⟩
theorem law_t1 {c : Cx} (ok : c.Ok) {oc : Value} {od : Option Addr} {osl : Array (Option Value)} {name qual : Str} {params : Arguments} {body : List Stmt} {scope : Scope} {dV kV doc pm cdv ct : Value} {an : Option Addr}
    (ho : (hd.heap_1 c.w.params).lookup 356 = some ⟨oc, od, .func (fnX name qual params body scope [] dV kV doc pm an cdv ct), osl⟩) {z y : FM} {L a l : Addr} {cd : Value} {s : Shared} {A : Around} {m : Str → Option Value} {wc o : Obj} {vs : List Value} {ns : List Int} {nn : Nat} {rv : Value} {gs : List RuleG}
    (R : Room A 8) (hS : S c z y L m [(L + 1, wc)] s) (hw : wc.data = .cell none) (hm : m (Str.ofString "script") = some (.ref l)) (hl : z l = some o) (hc : o.cls = .type "list") (hd' : o.data = .seq vs.toArray nn) (hi : IntsAre vs ns) (hn : ns.length ≤ 63)
    (hmf : m (Str.ofString "fixed") = some rv) (hrv : DRows c z rv gs) (hgd : ∀ g ∈ gs, g.Dr) (hgl : gs.length ≤ 64) :
    W c A (execs (body.drop 1) (envX qual scope L a cd (cellsFrom (L + 1) scope.names []))) (fun fl s' => fl = .ret (.bool true) ∧ ∃ z ls m', S c z y L m' ls s') s := by
  have hh := R.1
  have ht : ∀ {z y : FM} {s : Shared} {m : Str → Option Value} {wc o : Obj}, S c z y L m [(L + 1, wc)] s → wc.data = .cell none → m (Str.ofString "script") = some (.ref l) → z l = some o → o.cls = .type "list" → o.data = .seq vs.toArray nn →
      W c A (execs (body.drop 2) (envX qual scope L a cd (cellsFrom (L + 1) scope.names []))) (fun fl s' => fl = .ret (.bool true) ∧ ∃ z ls m', S c z y L m' ls s') s := fun h1 h2 h3 h4 h5 h6 => law_t2 ok ho R h1 h2 h3 h4 h5 h6 hi hn
  have ho2 := (show (hd.heap_1 c.w.params).lookup 356 = some ⟨_, _, .func (fnX _ _ _ _ _ [] _ _ _ _ _ _ _), _⟩ by k_is)
  have ho3 := ho2.symm.trans ho
  clear ho ho2
  cases ho3
  simp only [List.drop] at ht ⊢
  repeat' walk_at "z"
  refine zNewT (by with_reducible assumption) ?_
  intro k1 z1 s1 hz1 hk1 hS1
  repeat' walk_at "z"
  refine zNewL (by with_reducible assumption) ?_
  intro kl s2 hS2
  have h2 := S.le_freeze hS2
  have hS3 := S.freeze hS2
  (try clear hS1); (try clear hS2)
  obtain ⟨z2, hz2', hkl⟩ : ∃ z2, z2 = z1.put kl _ ∧ z2 kl = some _ := ⟨_, rfl, FM.put_self⟩
  rw [← hz2'] at hS3 h2
  have hkv : KeysAt z2 (.ref kl) [[1, 2, 3, 3, 1, -1, -1, -1, -1, -1]] := ⟨kl, _, _, rfl, hkl, .cons ⟨k1, _, rfl, h2 _ _ hk1, .cons _ _ (.cons _ _ (.cons _ _ (.cons _ _ (.cons _ _ (.cons _ _ (.cons _ _ (.cons _ _ (.cons _ _ (.cons _ _ .nil))))))))), rfl⟩ .nil⟩
  repeat' walk_at "z"
  have h02 := hz1.trans h2
  refine zFn (ls0 := []) (rest := [(L + 1, wc)]) (spec_law_right ok (hrv.mono h02) hkv hgd key_fixed hgl (by decide) (by decide) (.inl ⟨_, rfl⟩)) R (by assumption) ?_
  rintro r z3 ls3 s3 hz3 ⟨rfl, rfl⟩ hS4
  have hl3 := hz3 _ _ (h02 _ _ hl)
  (try clear hS3); clear h02
  walk_at "z"
  walk_at "z"
  refine zApp0 ?_
  exact ht hS4 hw (by walk_at "lk") hl3 hc hd'
theorem fixed_dr {t t' : Tok} : ∀ g ∈ ([⟨.str (Str.ofString "let") t, [(3, .rng 1 4), (4, .rng 0 0)]⟩, ⟨.str (Str.ofString "drop") t', [(3, .rng 3 6)]⟩] : List RuleG), g.Dr := by
  intro g hg
  rcases List.mem_cons.mp hg with rfl | hg
  · refine ⟨by simp, ?_, by simp⟩
    intro p hp
    rcases List.mem_cons.mp hp with rfl | hp
    · exact ⟨.inl rfl, by show (0 : Int) ≤ 1 ∧ (1 : Int) ≤ 4 ∧ (4 : Int) ≤ 7; decide⟩
    · rw [List.mem_singleton] at hp
      subst hp
      exact ⟨.inr (.inl rfl), by show (0 : Int) ≤ 0 ∧ (0 : Int) ≤ 0 ∧ (0 : Int) ≤ 7; decide⟩
  · rw [List.mem_singleton] at hg
    subst hg
    refine ⟨by simp, ?_, by simp⟩
    intro p hp
    rw [List.mem_singleton] at hp
    subst hp
    exact ⟨.inl rfl, by show (0 : Int) ≤ 3 ∧ (3 : Int) ≤ 6 ∧ (6 : Int) ≤ 7; decide⟩
set_option maxHeartbeats 800000 in
theorem law_body {c : Cx} (ok : c.Ok) {oc : Value} {od : Option Addr} {osl : Array (Option Value)} {name qual : Str} {params : Arguments} {body : List Stmt} {scope : Scope} {dV kV doc pm cdv ct : Value} {an : Option Addr}
    (ho : (hd.heap_1 c.w.params).lookup 356 = some ⟨oc, od, .func (fnX name qual params body scope [] dV kV doc pm an cdv ct), osl⟩) {z y : FM} {L a l : Addr} {cd : Value} {s : Shared} {A : Around} {wc o : Obj} {vs : List Value} {ns : List Int} {nn : Nat}
    (R : Room A 8) (hS : S c z y L (upd no (Str.ofString "script") (.ref l)) [(L + 1, wc)] s) (hw : wc.data = .cell none) (hl : z l = some o) (hc : o.cls = .type "list") (hd' : o.data = .seq vs.toArray nn) (hi : IntsAre vs ns) (hn : ns.length ≤ 63) :
    W c A (execs body (envX qual scope L a cd (cellsFrom (L + 1) scope.names []))) (fun fl s' => fl = .ret (.bool true) ∧ ∃ z ls m', S c z y L m' ls s') s := by
  have hh := R.1
  have ht : ∀ {z y : FM} {s : Shared} {m : Str → Option Value} {wc o : Obj} {rv : Value} {gs : List RuleG}, S c z y L m [(L + 1, wc)] s → wc.data = .cell none → m (Str.ofString "script") = some (.ref l) → z l = some o → o.cls = .type "list" → o.data = .seq vs.toArray nn →
      m (Str.ofString "fixed") = some rv → DRows c z rv gs → (∀ g ∈ gs, g.Dr) → gs.length ≤ 64 →
      W c A (execs (body.drop 1) (envX qual scope L a cd (cellsFrom (L + 1) scope.names []))) (fun fl s' => fl = .ret (.bool true) ∧ ∃ z ls m', S c z y L m' ls s') s := fun h1 h2 h3 h4 h5 h6 h7 h8 h9 h10 => law_t1 ok ho R h1 h2 h3 h4 h5 h6 hi hn h7 h8 h9 h10
  have ho2 := (show (hd.heap_1 c.w.params).lookup 356 = some ⟨_, _, .func (fnX _ _ _ _ _ [] _ _ _ _ _ _ _), _⟩ by k_is)
  have ho3 := ho2.symm.trans ho
  clear ho ho2
  cases ho3
  simp only [List.drop] at ht
  refine zAssign ?_
  refine zCut (P := fun v s' => ∃ z' gs, FM.le z z' ∧ S c z' y L (upd no (Str.ofString "script") (.ref l)) [(L + 1, wc)] s' ∧ DRows c z' v gs ∧ (∀ g ∈ gs, g.Dr) ∧ gs.length ≤ 64) ?_ ?_
  · clear ht
    generalize envX _ _ _ _ _ _ = env
    clear hw hl hc hd' hi hn R
    generalize upd no (Str.ofString "script") (.ref l) = m at hS ⊢
    repeat' walk_at "z"
    with_reducible refine zDictD ok (by with_reducible assumption) ?_ rfl rfl (by simp) (by decide)
    intro d1 o1 s2 hd1 hS2
    refine pairTrees_cons_walk ?_
    repeat' walk_at "z"
    refine zNewT (by with_reducible assumption) ?_
    intro w1 z1 s3 hz1 hw1 hS3
    refine pairTrees_cons_walk ?_
    repeat' walk_at "z"
    refine zNewT (by with_reducible assumption) ?_
    intro w2 z2 s4 hz2 hw2 hS4
    refine pairTrees_nil_walk ?_
    refine ⟨z2, _, _, rfl, by simp [intKeyPairs], hS4, ?_⟩
    intro o1' s5 hD1 hS5
    have hz3 := S.le_freeze hS5
    have hS6 := S.freeze hS5
    obtain ⟨z3, hz3', hd1z⟩ : ∃ z3, z3 = z2.put d1 o1' ∧ z3 d1 = some o1' := ⟨_, rfl, FM.put_self⟩
    rw [← hz3'] at hS6 hz3
    (try clear hS2); (try clear hS3); (try clear hS4); (try clear hS5)
    simp only [intKeyPairs] at hD1
    have hdz1 : DictZ c z3 (.ref d1) [(3, .ref w1), (4, .ref w2)] := ⟨d1, o1', rfl, hd1, hd1z, hD1⟩
    walk_at "z"
    with_reducible refine zNewT hS6 ?_ (by simp)
    intro r1 z4 s7 hz4 hr1 hS7
    repeat' walk_at "z"
    with_reducible refine zDictD ok (by with_reducible assumption) ?_ rfl rfl (by simp) (by decide)
    intro d2 o2 s8 hd2 hS8
    refine pairTrees_cons_walk ?_
    repeat' walk_at "z"
    with_reducible refine zNewT (by with_reducible assumption) ?_ (by simp)
    intro w3 z5 s9 hz5 hw3 hS9
    refine pairTrees_nil_walk ?_
    refine ⟨z5, _, _, rfl, by simp [intKeyPairs], hS9, ?_⟩
    intro o2' s10 hD2 hS10
    have hz6 := S.le_freeze hS10
    have hS11 := S.freeze hS10
    obtain ⟨z6, hz6', hd2z⟩ : ∃ z6, z6 = z5.put d2 o2' ∧ z6 d2 = some o2' := ⟨_, rfl, FM.put_self⟩
    rw [← hz6'] at hS11 hz6
    (try clear hS7); (try clear hS8); (try clear hS9); (try clear hS10)
    simp only [intKeyPairs] at hD2
    have hdz2 : DictZ c z6 (.ref d2) [(3, .ref w3)] := ⟨d2, o2', rfl, hd2, hd2z, hD2⟩
    repeat' walk_at "z"
    with_reducible refine zNewT (by with_reducible assumption) ?_ (by simp)
    intro r2 z7 s12 hz7 hr2 hS12
    repeat' walk_at "z"
    with_reducible refine zNewL (by with_reducible assumption) ?_ (by simp)
    intro fl s13 hS13
    have hz8 := S.le_freeze hS13
    have hS14 := S.freeze hS13
    obtain ⟨z8, hz8', hfl⟩ : ∃ z8, z8 = z7.put fl _ ∧ z8 fl = some _ := ⟨_, rfl, FM.put_self⟩
    rw [← hz8'] at hS14 hz8
    (try clear hS12); (try clear hS13)
    have h48 := (hz5.trans hz6).trans (hz7.trans hz8)
    have h38 := hz4.trans h48
    have hw1' := h38 _ _ (hz3 _ _ (hz2 _ _ hw1))
    have hw2' := h38 _ _ (hz3 _ _ hw2)
    have hw3' := hz8 _ _ (hz7 _ _ (hz6 _ _ hw3))
    refine ⟨z8, [⟨.str (Str.ofString "let") _, [(3, .rng 1 4), (4, .rng 0 0)]⟩, ⟨.str (Str.ofString "drop") _, [(3, .rng 3 6)]⟩], ((hz1.trans hz2).trans hz3).trans h38, hS14, ⟨fl, _, _, rfl, hfl, .cons ⟨r1, _, rfl, h48 _ _ hr1, ⟨_, hdz1.mono h38, ?_⟩, .inl ⟨_, rfl⟩⟩ (.cons ⟨r2, _, rfl, hz8 _ _ hr2, ⟨_, hdz2.mono (hz7.trans hz8), ?_⟩, .inr (.inl ⟨_, rfl⟩)⟩ .nil)⟩, ?_, by simp⟩
    · exact .cons ⟨w1, _, _, _, rfl, hw1'⟩ (.cons ⟨w2, _, _, _, rfl, hw2'⟩ .nil)
    · exact .cons ⟨w3, _, _, _, rfl, hw3'⟩ .nil
    · exact fixed_dr
  · rintro v s1 ⟨z1, gs, hz1, hS1, hrv, hgd, hgl⟩
    walk_at "z"
    have hl1 := hz1 _ _ hl
    exact ht (by assumption) hw (by walk_at "lk") hl1 hc hd' (by walk_at "lk") hrv hgd hgl
theorem law_bodyC {c : Cx} (ok : c.Ok) {oc : Value} {od : Option Addr} {osl : Array (Option Value)} {name qual : Str} {params : Arguments} {body : List Stmt} {scope : Scope} {dV kV doc pm cdv ct : Value} {an : Option Addr}
    (ho : (hd.heap_1 c.w.params).lookup 356 = some ⟨oc, od, .func (fnX name qual params body scope [] dV kV doc pm an cdv ct), osl⟩) {z y : FM} {L a l : Addr} {cd : Value} {s : Shared} {A : Around} {wc o : Obj} {vs : List Value} {ns : List Int} {nn : Nat}
    (R : Room A 8) (hS : S c z y L (upd no (Str.ofString "script") (.ref l)) [(L + 1, wc)] s) (hw : wc.data = .cell none) (hl : z l = some o) (hc : o.cls = .type "list") (hd' : o.data = .seq vs.toArray nn) (hi : IntsAre vs ns) (hn : ns.length ≤ 63) :
    W c A (execs body (envOfC qual scope L a cd)) (fun fl s' => fl = .ret (.bool true) ∧ ∃ z ls m', S c z y L m' ls s') s := law_body ok ho R hS hw hl hc hd' hi hn
theorem start {c : Cx} {h₁ : Heap} {t : Nat} {m : Str → Option Value} {w : Obj} (F : Fr c.s0.heap c.s0.heap.objs.size h₁ m) (N : News c.s0.heap c.s0.heap.objs.size h₁ [(c.s0.heap.objs.size + 1, w)]) (hc : c.H = c.s0.heap) :
    S c c.s0.heap.get? (fun _ => none) c.s0.heap.objs.size m [(c.s0.heap.objs.size + 1, w)] { c.s0 with heap := h₁, toks := t } where
  same := ⟨rfl, rfl, rfl⟩
  base := fun a o e => hc ▸ e
  fz := fun a o e => F.keep a o e
  fy := fun a o e => by cases e
  zy := fun _ _ _ => rfl
  ns := F.ns
  zL := fresh_none _
  yL := rfl
  lv := fun p hp => by
    rw [List.mem_singleton] at hp
    subst hp
    have := N _ (.head _)
    exact ⟨this.1, this.2.1, this.2.2, rfl⟩
  nd := by simp
theorem S.m' {c : Cx} {z y : FM} {L : Addr} {m m' : Str → Option Value} {ls : List (Addr × Obj)} {s : Shared} (h : S c z y L m ls s) (e : m = m') : S c z y L m' ls s := e ▸ h
theorem room_top {env : Env} : Room (callerA.deeper env) 8 := ⟨rfl, by show callerA.depth + 1 + 8 < recursionLimit; decide, by show callerA.units + 3 + 64 * 8 + 64 < cLine; decide⟩
theorem run_top {w : World} {s1 : Shared} {mg mb m : Str → Option Value} {h₁ : Heap} {tk : Nat} {A : Around} {body : List Stmt} {env : Env} {wc : Obj} {qk : Flow → Shared → Prop} {ek : Value → Shared → Prop} (KX : (hd.heap_1 w.params).In s1.heap)
    (g : s1.heap.Ns mainGlobals mg) (b : s1.heap.Ns builtinsNs mb) (nl : s1.heap.NoLimit) (bi : ∀ x : Str, x ≠ "__name__" → mb x = bootBuiltins x) (F : Fr s1.heap s1.heap.objs.size h₁ m) (N : News s1.heap s1.heap.objs.size h₁ [(s1.heap.objs.size + 1, wc)])
    (h : ∀ c : Cx, c.Ok → S c s1.heap.get? (fun _ => none) s1.heap.objs.size m [(s1.heap.objs.size + 1, wc)] { s1 with heap := h₁, toks := tk } →
      W c A (execs body env) (fun fl s' => fl = .ret (.bool true) ∧ ∃ z ls m', S c z (fun _ => none) s1.heap.objs.size m' ls s') { s1 with heap := h₁, toks := tk })
    (hq : ∀ s' m', Fr s1.heap s1.heap.objs.size s'.heap m' → s'.gens = s1.gens → s'.os = s1.os → qk (.ret (.bool true)) s') : wpAny (model PG w) A (execs body env) qk ek { s1 with heap := h₁, toks := tk } := by
  have ok : (Cx.mk w s1.heap s1 mg mb).Ok := ⟨KX, g, b, nl, bi⟩
  refine wpAny_mono (h ⟨w, s1.heap, s1, mg, mb⟩ ok (start (c := ⟨w, s1.heap, s1, mg, mb⟩) F N rfl)) (fun fl s' hr => ?_) fun _ _ x => x.elim
  obtain ⟨rfl, z, ls, m', hS⟩ := hr
  exact hq s' m' ⟨hS.ns, fun b o e => hS.inH b o e, Nat.le_refl _⟩ hS.same.1 hS.same.2.2
local macro_rules | `(tactic| k_qdec) => `(tactic| first | with_reducible exact names_ok | with_reducible exact imports_none)
set_option maxHeartbeats 400000 in
theorem law_holds : PySem.Challenge.rw_pc0375_01.Holds := hd (by
  k_go0
  (all_goals try k_fold)
  rename (hd.heap_1 _).In _ => KX
  rename Top _ _ _ _ _ _ => T0
  rename Fr _ _ _ _ => F0
  rename News _ _ _ _ => N0
  rename Heap.IsList _ _ _ => hLst
  rename IntsAre _ _ => hInt
  rename _ = #[] => hgens
  rename ¬ (_ < _) => hlen63
  rename Obj => wcell
  rename List Value => vs
  rename List Int => ns
  rename Shared => s1
  rename World => w
  (with_reducible rename _ = Data.cell _ => hcell0)
  with_reducible refine run_top KX T0.g T0.b T0.nolimit T0.builtins F0 N0 ?_ ?_
  · intro c ok hS
    have hcell : wcell.data = .cell none := hcell0
    obtain ⟨ol, hol, holc, nn, hold⟩ := hLst
    have hS := hS.m' (m' := upd no (Str.ofString "script") (.ref _)) (by rfl)
    clear hcell0 KX F0 N0
    have hn63 : ns.length ≤ 63 := by omega
    generalize hA : callerA.deeper _ = A
    have R : Room A 8 := hA ▸ room_top
    have hh := R.1
    clear hA
    (try clear qk); (try clear ek)
    rename_i a3 a4 a5 a6 a7 a8 a9 a10 a11 a12 a13 a14 a15 a16 a17 a18 a19 a20 a21 a22 a23 a24 a25 a26 a27 a28 a29 a30 a31 a32 a33 a34 a35 a36 a37 a38 a39 a40 a41 a42 a43 a44
    (try clear a44); (try clear a43); (try clear a42); (try clear a41); (try clear a40); (try clear a39); (try clear a38); (try clear a37); (try clear a36); (try clear a35); (try clear a34); (try clear a33); (try clear a32); (try clear a31); (try clear a30); (try clear a29); (try clear a28); (try clear a27); (try clear a26); (try clear a25); (try clear a24); (try clear a23); (try clear a22); (try clear a21); (try clear a20); (try clear a19); (try clear a18); (try clear a17); (try clear a16); (try clear a15); (try clear a14); (try clear a13); (try clear a12); (try clear a11); (try clear a10); (try clear a9); (try clear a8); (try clear a7); (try clear a6); (try clear a5); (try clear a4); (try clear a3)
    (try clear T0)
    dsimp only
    have h1 := fun (oc : Value) (od : Option Addr) (osl : Array (Option Value)) (name qual : Str) (params : Arguments) (body : List Stmt) (scope : Scope) (dV kV doc pm cdv ct : Value) (an : Option Addr) (ho : (hd.heap_1 c.w.params).lookup 356 = some ⟨oc, od, .func (fnX name qual params body scope [] dV kV doc pm an cdv ct), osl⟩) (a : Addr) (cd : Value) => law_bodyC (a := a) (cd := cd) ok ho R hS hcell hol holc hold hInt hn63
    clear hS hcell hol holc hold hInt hn63
    have ho2 := (show (hd.heap_1 c.w.params).lookup 356 = some ⟨_, _, .func (fnX _ _ _ _ _ [] _ _ _ _ _ _ _), _⟩ by k_is)
    with_reducible have h2 := h1 _ _ _ _ _ _ _ _ _ _ _ _ _ _ _ ho2
    with_reducible exact h2 _ _
  · intro s' m' F' hg' ho'
    with_reducible refine goodW_bool F' (hg'.trans hgens) (fun _ => rfl) ?_ ho'
    wrow_post)
end
end Mine
theorem PySem.Challenge.cw_pc0375_01_holds : PySem.Challenge.rw_pc0375_01.Holds :=
  Mine.law_holds
