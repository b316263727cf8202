import PyProof.Rows.All
import Wide.All
import OpenK.AllK
import Wide.FinOn
import PySem.Challenge.RW_nu0044_01
open PySem PySem.W PyProof.Rows
set_option Elab.async false
set_option maxRecDepth 100000
set_option maxHeartbeats 8000000
namespace Mine
open_top hd for PySem.Challenge.rw_nu0044_01
end Mine
set_option linter.all false
set_option genSizeOf false
set_option genInjectivity false
set_option maxHeartbeats 4000000
open PySem.Calls
section
namespace Mine

inductive A3 (a1 a2 a3 : Prop) : Prop where | mk (h1 : a1) (h2 : a2) (h3 : a3) : A3 a1 a2 a3
inductive A4 (a1 a2 a3 a4 : Prop) : Prop where | mk (h1 : a1) (h2 : a2) (h3 : a3) (h4 : a4) : A4 a1 a2 a3 a4
inductive A5 (a1 a2 a3 a4 a5 : Prop) : Prop where | mk (h1 : a1) (h2 : a2) (h3 : a3) (h4 : a4) (h5 : a5) : A5 a1 a2 a3 a4 a5
inductive A6 (a1 a2 a3 a4 a5 a6 : Prop) : Prop where | mk (h1 : a1) (h2 : a2) (h3 : a3) (h4 : a4) (h5 : a5) (h6 : a6) : A6 a1 a2 a3 a4 a5 a6
inductive A7 (a1 a2 a3 a4 a5 a6 a7 : Prop) : Prop where | mk (h1 : a1) (h2 : a2) (h3 : a3) (h4 : a4) (h5 : a5) (h6 : a6) (h7 : a7) : A7 a1 a2 a3 a4 a5 a6 a7
inductive A8 (a1 a2 a3 a4 a5 a6 a7 a8 : Prop) : Prop where | mk (h1 : a1) (h2 : a2) (h3 : a3) (h4 : a4) (h5 : a5) (h6 : a6) (h7 : a7) (h8 : a8) : A8 a1 a2 a3 a4 a5 a6 a7 a8
inductive A9 (a1 a2 a3 a4 a5 a6 a7 a8 a9 : Prop) : Prop where | mk (h1 : a1) (h2 : a2) (h3 : a3) (h4 : a4) (h5 : a5) (h6 : a6) (h7 : a7) (h8 : a8) (h9 : a9) : A9 a1 a2 a3 a4 a5 a6 a7 a8 a9
inductive E2 {α1 α2 : Type} (P : α1 → α2 → Prop) : Prop where | mk (x1 : α1) (x2 : α2) (h : P x1 x2) : E2 P
inductive E3 {α1 α2 α3 : Type} (P : α1 → α2 → α3 → Prop) : Prop where | mk (x1 : α1) (x2 : α2) (x3 : α3) (h : P x1 x2 x3) : E3 P
inductive E4 {α1 α2 α3 α4 : Type} (P : α1 → α2 → α3 → α4 → Prop) : Prop where | mk (x1 : α1) (x2 : α2) (x3 : α3) (x4 : α4) (h : P x1 x2 x3 x4) : E4 P
inductive E5 {α1 α2 α3 α4 α5 : Type} (P : α1 → α2 → α3 → α4 → α5 → Prop) : Prop where | mk (x1 : α1) (x2 : α2) (x3 : α3) (x4 : α4) (x5 : α5) (h : P x1 x2 x3 x4 x5) : E5 P
inductive E6 {α1 α2 α3 α4 α5 α6 : Type} (P : α1 → α2 → α3 → α4 → α5 → α6 → Prop) : Prop where | mk (x1 : α1) (x2 : α2) (x3 : α3) (x4 : α4) (x5 : α5) (x6 : α6) (h : P x1 x2 x3 x4 x5 x6) : E6 P
inductive E7 {α1 α2 α3 α4 α5 α6 α7 : Type} (P : α1 → α2 → α3 → α4 → α5 → α6 → α7 → Prop) : Prop where | mk (x1 : α1) (x2 : α2) (x3 : α3) (x4 : α4) (x5 : α5) (x6 : α6) (x7 : α7) (h : P x1 x2 x3 x4 x5 x6 x7) : E7 P
inductive E8 {α1 α2 α3 α4 α5 α6 α7 α8 : Type} (P : α1 → α2 → α3 → α4 → α5 → α6 → α7 → α8 → Prop) : Prop where | mk (x1 : α1) (x2 : α2) (x3 : α3) (x4 : α4) (x5 : α5) (x6 : α6) (x7 : α7) (x8 : α8) (h : P x1 x2 x3 x4 x5 x6 x7 x8) : E8 P
noncomputable def put (x : Str) (v : Value) (m : Str → Option Value) : Str → Option Value := fun y => if y = x then some v else m y
theorem put_eq (x : Str) (v : Value) (m : Str → Option Value) : put x v m x = some v := if_pos rfl
theorem i0 {α : Type} {a : α} {l : List α} : a ∈ a :: l := .head _
theorem i1 {α : Type} {a b : α} {l : List α} : a ∈ b :: a :: l := .tail _ i0
theorem i2 {α : Type} {a b c : α} {l : List α} : a ∈ b :: c :: a :: l := .tail _ i1
theorem i3 {α : Type} {a b c d : α} {l : List α} : a ∈ b :: c :: d :: a :: l := .tail _ i2
theorem i4 {α : Type} {a b c d e : α} {l : List α} : a ∈ b :: c :: d :: e :: a :: l := .tail _ i3
theorem hide {P : Prop} (h : ∀ Z : Prop, (P → Z) → Z) : P := h P id
noncomputable def Ext (h h' : Heap) : Prop := ∀ b o, h.get? b = some o → h'.get? b = some o
theorem Ext.refl (h : Heap) : Ext h h := fun _ _ e => e
theorem Ext.trans {h₁ h₂ h₃ : Heap} (a : Ext h₁ h₂) (b : Ext h₂ h₃) : Ext h₁ h₃ := fun x o e => b x o (a x o e)
noncomputable def Gro (X : List Addr) (h h' : Heap) : Prop := ∀ b o, b ∉ X → h.get? b = some o → h'.get? b = some o
theorem Gro.of_ext {X : List Addr} {h h' : Heap} (a : Ext h h') : Gro X h h' := fun b o _ e => a b o e
theorem Gro.ext {h h' : Heap} (a : Gro [] h h') : Ext h h' := fun b o e => a b o (by simp) e
theorem Gro.trans {X : List Addr} {h₁ h₂ h₃ : Heap} (a : Gro X h₁ h₂) (b : Gro X h₂ h₃) : Gro X h₁ h₃ := fun x o n e => b x o n (a x o n e)
theorem Gro.mono {X Y : List Addr} {h h' : Heap} (a : Gro X h h') (s : ∀ x ∈ X, x ∈ Y) : Gro Y h h' := fun b o n e => a b o (fun m => n (s b m)) e
theorem Gro.sameBut {h h' : Heap} {a : Addr} (hs : Heap.SameBut a h h') : Gro [a] h h' := fun b o n e => (hs.2 b (by simpa using n)).trans e
theorem Gro.push (h : Heap) (o : Obj) : Ext h (h.push o) := fun _ _ e => Heap.get?_push_of_some _ e

structure Gl (w : World) (h : Heap) : Prop where
  K : (hd.heap_39 w.params).In h
  g : ∃ mg, h.Ns mainGlobals mg
  b : ∃ mb, h.Ns builtinsNs mb ∧ ∀ x : Str, x ≠ "__name__" → mb x = bootBuiltins x
  lim : h.NoLimit
  seer : h.NoSeer
theorem Gl.ext {w : World} {h h' : Heap} (G : Gl w h) (e : Ext h h') : Gl w h' :=
  ⟨G.K.keeps e, let ⟨mg, x⟩ := G.g; ⟨mg, x.keeps e⟩, let ⟨mb, x, y⟩ := G.b; ⟨mb, x.keeps e, y⟩, G.lim.keeps e, G.seer.keeps e⟩

noncomputable def kill (o : Obj) : Obj := { o with data := .freed }
noncomputable def free1 (h : Heap) (a : Addr) : Heap := h.update a kill
theorem free1_ne {h : Heap} {a b : Addr} (n : b ≠ a) : (free1 h a).get? b = h.get? b := (Heap.SameBut.update h a kill).2 b n
theorem free1_self (h : Heap) (a : Addr) : (free1 h a).get? a = none := by
  obtain ⟨objs, l⟩ := h
  unfold free1 Heap.update Heap.get?
  simp only [Array.getElem?_modify, if_pos]
  cases objs[a]? with
  | none => rfl
  | some o => rfl
noncomputable def frees (h : Heap) (l : List Addr) : Heap := l.foldl free1 h
theorem frees_not {l : List Addr} : ∀ {h : Heap} {b : Addr}, b ∉ l → (frees h l).get? b = h.get? b := by
  induction l with
  | nil => intro h b _; rfl
  | cons a r ih =>
    intro h b n
    have n' : b ≠ a ∧ b ∉ r := by simpa using n
    show (frees (free1 h a) r).get? b = _
    rw [ih n'.2, free1_ne n'.1]
theorem frees_none {l : List Addr} : ∀ {h : Heap} {b : Addr}, h.get? b = none → (frees h l).get? b = none := by
  induction l with
  | nil => intro h b e; exact e
  | cons a r ih =>
    intro h b e
    refine ih (h := free1 h a) ?_
    by_cases q : b = a
    · subst q; exact free1_self h b
    · rw [free1_ne q]; exact e
theorem frees_mem {l : List Addr} : ∀ {h : Heap} {b : Addr}, b ∈ l → (frees h l).get? b = none := by
  induction l with
  | nil => intro h b m; cases m
  | cons a r ih =>
    intro h b m
    rcases List.mem_cons.mp m with rfl | m
    · exact frees_none (h := free1 h b) (free1_self h b)
    · exact ih (h := free1 h a) m
theorem frees_some {l : List Addr} {h : Heap} {b : Addr} {o : Obj} (e : (frees h l).get? b = some o) : b ∉ l ∧ h.get? b = some o := by
  by_cases q : b ∈ l
  · rw [frees_mem q] at e; cases e
  · exact ⟨q, by rw [frees_not q] at e; exact e⟩
theorem frees_ext (h : Heap) (l : List Addr) : Ext (frees h l) h := fun _ _ e => (frees_some e).2

structure St (s₀ : Shared) (B : Heap) (L : Addr) (m : Str → Option Value) (own : List (Addr × Obj)) (s : Shared) : Prop where
  gens : s.gens = s₀.gens
  os : s.os = s₀.os
  ns : s.heap.Ns L m
  keep : Ext B s.heap
  noL : B.get? L = none
  ow : ∀ p ∈ own, s.heap.get? p.1 = some p.2 ∧ p.1 ≠ L ∧ B.get? p.1 = none
  nd : (own.map (·.1)).Nodup

section
variable {s₀ s s' : Shared} {B B' : Heap} {L : Addr} {m m' : Str → Option Value} {own own' : List (Addr × Obj)}

theorem St.like (S : St s₀ B L m own s) (h : s'.heap = s.heap) (g : s'.gens = s.gens) (o : s'.os = s.os) : St s₀ B L m own s' :=
  ⟨g.trans S.gens, o.trans S.os, h ▸ S.ns, h ▸ S.keep, S.noL, h ▸ S.ow, S.nd⟩
theorem St.tok (S : St s₀ B L m own s) (t : Nat) : St s₀ B L m own { s with toks := t } := S.like rfl rfl rfl
theorem St.set (S : St s₀ B L m own s) {h' : Heap} {t : Nat} (hn : h'.Ns L m') (hs : Heap.SameBut L s.heap h') : St s₀ B L m' own { s with heap := h', toks := t } :=
  ⟨S.gens, S.os, hn, fun b o e => (hs.2 b (fun q => by subst q; rw [S.noL] at e; cases e)).trans (S.keep b o e), S.noL,
    fun p hp => ⟨(hs.2 _ (S.ow p hp).2.1).trans (S.ow p hp).1, (S.ow p hp).2⟩, S.nd⟩
theorem St.ltL (S : St s₀ B L m own s) : L < s.heap.objs.size := S.ns.lt
theorem St.lt (S : St s₀ B L m own s) {p : Addr × Obj} (hp : p ∈ own) : p.1 < s.heap.objs.size := Heap.lt_size (S.ow p hp).1
theorem St.grow (S : St s₀ B L m own s) {h' : Heap} {t : Nat} (e : Ext s.heap h') : St s₀ B L m own { s with heap := h', toks := t } :=
  ⟨S.gens, S.os, S.ns.keeps e, S.keep.trans e, S.noL, fun p hp => ⟨e _ _ (S.ow p hp).1, (S.ow p hp).2⟩, S.nd⟩
theorem St.push (S : St s₀ B L m own s) (o : Obj) (hf : o.isFreed = false := by rfl) {t : Nat} : St s₀ B L m ((s.heap.objs.size, o) :: own) { s with heap := s.heap.push o, toks := t } := by
  have e : Ext s.heap (s.heap.push o) := Gro.push _ _
  refine ⟨S.gens, S.os, S.ns.keeps e, S.keep.trans e, S.noL, fun p hp => ?_, ?_⟩
  · rcases List.mem_cons.mp hp with rfl | hp
    · refine ⟨Heap.get?_push_size _ hf, Nat.ne_of_gt S.ltL, ?_⟩
      cases q : B.get? s.heap.objs.size with
      | none => rfl
      | some o' => exact absurd (Heap.lt_size (S.keep _ _ q)) (Nat.lt_irrefl _)
    · exact ⟨e _ _ (S.ow p hp).1, (S.ow p hp).2⟩
  · rw [List.map_cons]
    refine List.nodup_cons.mpr ⟨fun hm => ?_, S.nd⟩
    obtain ⟨p, hp, hq⟩ := List.mem_map.mp hm
    exact absurd (S.lt hp) (by rw [hq]; exact Nat.lt_irrefl _)
theorem St.perm (S : St s₀ B L m own s) (h : own'.Perm own) : St s₀ B L m own' s :=
  ⟨S.gens, S.os, S.ns, S.keep, S.noL, fun p hp => S.ow p (h.mem_iff.mp hp), (h.map _).nodup_iff.mpr S.nd⟩
theorem get_size (h : Heap) : h.get? h.objs.size = none := by
  cases e : h.get? h.objs.size with
  | none => rfl
  | some o => exact absurd (Heap.lt_size e) (Nat.lt_irrefl _)
theorem St.inner {C : Addr} {oL : Obj} {h₁ : Heap} {m' : Str → Option Value} {t : Nat} (S : St s₀ B L m own s) (hn : h₁.Ns C m') (k : Ext s.heap h₁) (hC : s.heap.get? C = none) (hoL : s.heap.get? L = some oL) : St s₀ B C m' ((L, oL) :: own) { s with heap := h₁, toks := t } := by
  have ne : ∀ a o, s.heap.get? a = some o → a ≠ C := fun a o e q => by rw [q, hC] at e; cases e
  refine ⟨S.gens, S.os, hn, S.keep.trans k, ?_, fun p hp => ?_, ?_⟩
  · cases e : B.get? C with
    | none => rfl
    | some o => exact absurd rfl (ne _ _ (S.keep _ _ e))
  · rcases List.mem_cons.mp hp with rfl | hp
    · exact ⟨k _ _ hoL, ne _ _ hoL, S.noL⟩
    · have z := S.ow p hp
      exact ⟨k _ _ z.1, ne _ _ z.1, z.2.2⟩
  · rw [List.map_cons]
    refine List.nodup_cons.mpr ⟨fun hm => ?_, S.nd⟩
    obtain ⟨p, hp, e⟩ := List.mem_map.mp hm
    exact (S.ow p hp).2.1 e
theorem St.rebase (S : St s₀ B L m own s) (sub : List.Sublist own' own) :
    ∃ B', A3 (Ext B B') (St s₀ B' L m own' s) (∀ b o, s.heap.get? b = some o → b ≠ L → b ∉ own'.map (·.1) → B'.get? b = some o) := by
  refine ⟨frees s.heap (L :: own'.map (·.1)), fun b o e => ?_, ⟨S.gens, S.os, S.ns, frees_ext _ _, frees_mem i0, fun p hp => ⟨(S.ow p (sub.subset hp)).1, (S.ow p (sub.subset hp)).2.1, frees_mem (.tail _ (List.mem_map.mpr ⟨p, hp, rfl⟩))⟩, S.nd.sublist (sub.map _)⟩, fun b o e n1 n2 => ?_⟩
  · have n : b ∉ L :: own'.map (·.1) := by
      intro hm
      refine (List.mem_cons.mp hm).elim (fun q => ?_) fun q => ?_
      · exact absurd (S.noL.symm.trans (q ▸ e)) (fun z => by cases z)
      · exact (List.mem_map.mp q).elim fun p hp => absurd ((S.ow p (sub.subset hp.1)).2.2.symm.trans (hp.2.symm ▸ e)) (fun z => by cases z)
    rw [frees_not n]; exact S.keep b o e
  · rw [frees_not fun hm => (List.mem_cons.mp hm).elim n1 n2]; exact e
end

section
variable {s₀ s : Shared} {B B' : Heap} {L : Addr} {m : Str → Option Value} {own : List (Addr × Obj)}
theorem St.rebaseTo (S : St s₀ B' L m own s) (e : Ext B B') : St s₀ B L m own s := 
  have none : ∀ a, B'.get? a = none → B.get? a = none := fun a h => by
    cases q : B.get? a with
    | none => rfl
    | some o => rw [e a o q] at h; cases h
  ⟨S.gens, S.os, S.ns, e.trans S.keep, none _ S.noL, fun p hp => ⟨(S.ow p hp).1, (S.ow p hp).2.1, none _ (S.ow p hp).2.2⟩, S.nd⟩
end
structure Done (X : List Addr) (s s' : Shared) : Prop where
  gens : s'.gens = s.gens
  os : s'.os = s.os
  gro : Gro X s.heap s'.heap
section
variable {s₀ s s' : Shared} {B B' : Heap} {L : Addr} {m m' : Str → Option Value} {own own' : List (Addr × Obj)}
theorem Done.refl (s : Shared) : Done [] s s := ⟨rfl, rfl, Gro.of_ext (Ext.refl _)⟩
theorem Done.trans {X : List Addr} {s₁ s₂ s₃ : Shared} (a : Done X s₁ s₂) (b : Done X s₂ s₃) : Done X s₁ s₃ := ⟨b.gens.trans a.gens, b.os.trans a.os, a.gro.trans b.gro⟩
theorem Done.ext (D : Done [] s s') : Ext s.heap s'.heap := D.gro.ext
theorem St.call0 (S : St s₀ B L m own s) (D : Done [] s s') : St s₀ B L m own s' :=
  ⟨D.gens.trans S.gens, D.os.trans S.os, S.ns.keeps D.ext, S.keep.trans D.ext, S.noL, fun p hp => ⟨D.ext _ _ (S.ow p hp).1, (S.ow p hp).2⟩, S.nd⟩
theorem St.drop1 {a : Addr} {o : Obj} (S : St s₀ B L m ((a, o) :: own) s) (D : Done [a] s s') : St s₀ B L m own s' := by
  have A := S.ow (a, o) i0
  have nd := List.nodup_cons.mp (show (a :: own.map (·.1)).Nodup from S.nd)
  exact ⟨D.gens.trans S.gens, D.os.trans S.os, S.ns.at' fun o e => D.gro L o (fun e => A.2.1 (List.mem_singleton.mp e).symm) e, fun b o e => D.gro b o (fun q => by rw [List.mem_singleton.mp q, A.2.2] at e; cases e) (S.keep b o e), S.noL,
    fun p hp => ⟨D.gro _ _ (fun e => nd.1 (List.mem_map.mpr ⟨p, hp, List.mem_singleton.mp e⟩)) (S.ow p (.tail _ hp)).1, (S.ow p (.tail _ hp)).2⟩, nd.2⟩
theorem St.step1 {a : Addr} {o o' : Obj} (S : St s₀ B L m ((a, o) :: own) s) (D : Done [a] s s') (ho : s'.heap.get? a = some o') : St s₀ B L m ((a, o') :: own) s' := by
  have T := S.drop1 D
  exact ⟨T.gens, T.os, T.ns, T.keep, T.noL, fun p hp => (List.mem_cons.mp hp).elim (fun e => by subst e; exact ⟨ho, (S.ow (a, o) i0).2⟩) (T.ow p), S.nd⟩
theorem St.call1 {pre post : List (Addr × Obj)} {a : Addr} {o o' : Obj} (S : St s₀ B L m (pre ++ (a, o) :: post) s) (D : Done [a] s s') (ho : s'.heap.get? a = some o') : St s₀ B L m (pre ++ (a, o') :: post) s' :=
  ((S.perm List.perm_middle.symm).step1 D ho).perm List.perm_middle
theorem St.turn {pre post : List (Addr × Obj)} {a : Addr} {o o' : Obj} (S : St s₀ B L m (pre ++ (a, o) :: post) s) {h' : Heap} {t : Nat} (ho : h'.get? a = some o') (hs : Heap.SameBut a s.heap h') :
    St s₀ B L m (pre ++ (a, o') :: post) { s with heap := h', toks := t } := S.call1 (s' := { s with heap := h', toks := t }) ⟨rfl, rfl, .sameBut hs⟩ ho
theorem St.done {X : List Addr} {t : Shared} (S : St t (frees t.heap X) L m own s) : Done X t s :=
  ⟨S.gens, S.os, fun b o n e => S.keep b o (by rw [frees_not n]; exact e)⟩
end

noncomputable def TO (o : Obj) : Prop := o.cls = .type "tuple" ∧ E2 fun vs n => o.data = .seq vs n
noncomputable def NT (o : Obj) : Prop := ¬ TO o
theorem NT.fields {o : Obj} {x : Array Value} (h : o.data = .fields x) : NT o := fun ⟨_, _, _, e⟩ => by rw [h] at e; cases e
theorem NT.dict {o : Obj} {x : Array _} {n : Nat} (h : o.data = .dict x n) : NT o := fun ⟨_, _, _, e⟩ => by rw [h] at e; cases e
theorem NT.cell {o : Obj} {x : Option Value} (h : o.data = .cell x) : NT o := fun ⟨_, _, _, e⟩ => by rw [h] at e; cases e

inductive At (a : Addr) (o : Obj) : List (Addr × Obj) → (Obj → List (Addr × Obj)) → Prop
  | head {r} : At a o ((a, o) :: r) (fun o' => (a, o') :: r)
  | tail {p r f} : At a o r f → At a o (p :: r) (fun o' => p :: f o')
theorem At.split {a : Addr} {o : Obj} {l : List (Addr × Obj)} {f : Obj → List (Addr × Obj)} (h : At a o l f) : E2 fun pre post => l = pre ++ (a, o) :: post ∧ ∀ o', f o' = pre ++ (a, o') :: post := by
  induction h with
  | head => exact ⟨[], _, rfl, fun _ => rfl⟩
  | tail h ih =>
    obtain ⟨pre, post, e, g⟩ := ih
    exact ⟨_ :: pre, post, by rw [e]; rfl, fun o' => by show _ :: _ = _; rw [g]; rfl⟩
section
variable {s₀ s s' : Shared} {B B' : Heap} {L : Addr} {m m' : Str → Option Value} {own own' : List (Addr × Obj)} {f : Obj → List (Addr × Obj)} {a : Addr} {o o' : Obj}
theorem St.at (S : St s₀ B L m own s) (h : At a o own f) : s.heap.get? a = some o ∧ a ≠ L ∧ B.get? a = none := by
  obtain ⟨pre, post, rfl, _⟩ := h.split
  exact S.ow (a, o) (by first | exact i0 | exact i1 | exact i2 | exact i3 | exact i4 | simp)
theorem St.turnAt (S : St s₀ B L m own s) (h : At a o own f) {h' : Heap} {t : Nat} (ho : h'.get? a = some o') (hs : Heap.SameBut a s.heap h') : St s₀ B L m (f o') { s with heap := h', toks := t } := by
  obtain ⟨pre, post, rfl, g⟩ := h.split
  rw [g]; exact S.turn ho hs
theorem St.callAt (S : St s₀ B L m own s) (h : At a o own f) (D : Done [a] s s') (ho : s'.heap.get? a = some o') : St s₀ B L m (f o') s' := by
  obtain ⟨pre, post, rfl, g⟩ := h.split
  rw [g]; exact S.call1 D ho
end
noncomputable def LO (vs : List Value) (o : Obj) : Prop := o.cls = .type "list" ∧ ∃ n, o.data = .seq vs.toArray n
theorem LO.isList {vs : List Value} {o : Obj} {h : Heap} {a : Addr} (x : LO vs o) (e : h.get? a = some o) : h.IsList a vs.toArray := ⟨o, e, x⟩
theorem LO.nt {vs : List Value} {o : Obj} (x : LO vs o) : NT o := fun ⟨e, _⟩ => absurd (x.1.symm.trans e) (by decide)
theorem isList_LO {its : Array Value} {h : Heap} {a : Addr} (x : h.IsList a its) : ∃ o, h.get? a = some o ∧ LO its.toList o := let ⟨o, e, y⟩ := x; ⟨o, e, y⟩
theorem LO.listOf (vs : List Value) (n : Nat) : LO vs (PySem.W.listOf vs.toArray n) := ⟨rfl, n, rfl⟩
end Mine
end
section
namespace Mine

theorem iteF {P Q : Prop} (h : Q) : if false = true then P else Q := h
theorem iteT {P Q : Prop} (h : P) : if true = true then P else Q := h
theorem iteFa {P Q : Prop} (h : Q) : if False then P else Q := by rw [if_neg (fun x => x)]; exact h
theorem iteTr {P Q : Prop} (h : P) : if True then P else Q := by rw [if_pos trivial]; exact h
theorem opq {α : Type} {M : Model} {A : Around} {T : Sem α} {Q : α → Shared → Prop} {E : Value → Shared → Prop} {s : Shared} (h : ∀ K : α → Shared → Prop, (∀ f s', Q f s' → K f s') → wpAny M A T K E s) : wpAny M A T Q E s := h Q fun _ _ x => x
theorem useK {α : Type} {K Q : α → Shared → Prop} {f : α} {s : Shared} (h : ∀ f s', Q f s' → K f s') (p : Q f s) : K f s := h f s p
structure PlainEnv (env : Env) : Prop where
  gen : env.scope.isGenerator = false
  co : env.scope.isCoroutine = false
  b : env.builtins = builtinsNs
  g : env.globals = mainGlobals
structure Room (prog : Program) (k : Nat) (A : Around) : Prop where
  h : A.handled = none
  d : A.depth + k + 120 < recursionLimit
  u : A.units + 8 * k + 100 < cLine
  fr : E2 fun env l => A.frames = some (env :: l) ∧ PlainEnv env
  tree : prog.given.tree = none
theorem unitsLt {a j k c : Nat} (h : j ≤ 8) (g : a + 8 * (k + 1) + 100 < c) : a + j + 8 * k + 100 < c :=
  Nat.lt_of_le_of_lt (Nat.add_le_add_right (by rw [Nat.add_assoc, Nat.add_comm j]; exact Nat.add_le_add_left (Nat.add_le_add_left h _) a) 100) g
theorem Room.deeper {prog : Program} {k : Nat} {A : Around} {env : Env} (R : Room prog (k + 1) A) (he : PlainEnv env) : Room prog k (A.deeper env) :=
  ⟨R.h, by rw [depth_deeper, Nat.add_right_comm A.depth 1 k]; exact R.d, by rw [units_deeper]; exact unitsLt (by decide) R.u, let ⟨e, l, hf, _⟩ := R.fr; ⟨env, e :: l, by show A.frames.map (env :: ·) = _; rw [hf]; rfl, he⟩, R.tree⟩
theorem Room.le {prog : Program} {j k : Nat} {A : Around} (R : Room prog k A) (h : j ≤ k) : Room prog j A := ⟨R.h, Nat.lt_of_le_of_lt (Nat.add_le_add_right (Nat.add_le_add_left h _) _) R.d, Nat.lt_of_le_of_lt (Nat.add_le_add_right (Nat.add_le_add_left (Nat.mul_le_mul_left 8 h) _) _) R.u, R.fr, R.tree⟩
theorem Room.dlt {prog : Program} {k : Nat} {A : Around} (R : Room prog k A) {x : Nat} (h : x ≤ 120) : A.depth + x < recursionLimit := Nat.lt_of_le_of_lt (Nat.add_le_add (Nat.le_add_right _ k) h) R.d
theorem Room.ult {prog : Program} {k : Nat} {A : Around} (R : Room prog k A) {x : Nat} (h : x ≤ 100) : A.units + x < cLine := Nat.lt_of_le_of_lt (Nat.add_le_add (Nat.le_add_right _ (8 * k)) h) R.u
theorem Room.pylong {prog : Program} {w : World} {k : Nat} {A : Around} {s : Shared} (R : Room prog k A) (G : Gl w s.heap) : PylongRoom (model prog w) A s := by
  obtain ⟨env, l, hf, he⟩ := R.fr
  exact PylongRoom.of G.lim (R.dlt (x := 100) (by decide)) (SeerAt.of G.seer R.tree hf he.gen he.co he.b he.g)

section
variable {prog : Program} {w : World} {A : Around} {E : Value → Shared → Prop} {s s₀ : Shared} {B : Heap} {L : Addr} {m : Str → Option Value} {own : List (Addr × Obj)} {env : Env}

theorem enterT {k : Nat} {X : List Addr} {own : List (Addr × Obj)} {name qual : Str} {params : Arguments} {body : List Stmt} {scope : Scope} {dV kV doc pm cdv ct oc : Value} {an od : Option Addr} {osl : Array (Option Value)} {f : Addr} {args : Args} {binds : List (Str × Value)} {Q : Value → Shared → Prop}
    (R : Room prog (k + 1) A) (G' : Gl w (frees s.heap X)) (hX : own.map (·.1) = X) (hown : ∀ p ∈ own, s.heap.get? p.1 = some p.2) (hnd : (own.map (·.1)).Nodup)
    (ho : (hd.heap_39 w.params).lookup f = some ⟨oc, od, .func (fnOf name qual params body scope dV kV doc pm an cdv ct), osl⟩) (hcd : codeIn (hd.heap_39 w.params) cdv qual = true)
    (hbind : bindArgs (fnOf name qual params body scope dV kV doc pm an cdv ct) args = pure binds) (hloc : ∀ y ∈ binds, scope.names.lookup y.1 = some .local)
    (hcell : ∀ x ∈ scope.names, x.2 ≠ .cell) (hco : scope.isCoroutine = false) (hgen : scope.isGenerator = false) (hk : scope.kind = .function)
    (h : ∀ L A' s', Room prog k A' → St s (frees s.heap X) L (fun y => binds.reverse.lookup y) own s' → s'.toks = s.toks + binds.length →
      wpAny (model prog w) A' (execs body (envOf qual scope L f cdv)) (fun fl s' => match fl with | .ret v => Q v s' | _ => Q .none s') (fun _ _ => False) s') :
    wpAny (model prog w) A (call (.ref f) args.pos args.kw) Q E s := by
  subst hX
  have G : Gl w s.heap := G'.ext (frees_ext _ _)
  refine wpAny_call (codeAny_call_def (fd := fnOf name qual params body scope dV kV doc pm an cdv ct) (body := body) (binds := binds) (R.dlt (x := 0) (by decide)) (G.K _ _ ho) rfl G.lim (codeRec_of G.K hcd) rfl (.of_eq hbind) hcell hloc (fun h₁ hns hk₁ => ?_) hco hgen hk)
  refine wpAny_mono (h s.heap.objs.size _ { s with heap := h₁, toks := s.toks + binds.length } (R.deeper (env := callEnv (fnOf name qual params body scope dV kV doc pm an cdv ct) s.heap.objs.size f) ⟨hgen, hco, rfl, rfl⟩) ⟨rfl, rfl, hns, fun b o e => hk₁ b o (frees_some e).2, ?_, fun p hp => ⟨hk₁ _ _ (hown p hp), Nat.ne_of_lt (Heap.lt_size (hown p hp)), frees_mem (List.mem_map.mpr ⟨p, hp, rfl⟩)⟩, hnd⟩ rfl) (fun fl s' hq => ?_) fun _ _ e => e.elim
  · refine frees_none ?_
    cases e : s.heap.get? s.heap.objs.size with
    | none => rfl
    | some o => exact absurd (Heap.lt_size e) (Nat.lt_irrefl _)
  · cases fl <;> exact hq

theorem enter {k : Nat} {X : List Addr} {own : List (Addr × Obj)} {name qual : Str} {params : Arguments} {body : List Stmt} {scope : Scope} {dV kV doc pm cdv ct oc : Value} {an od : Option Addr} {osl : Array (Option Value)} {f : Addr} {args : Args} {binds : List (Str × Value)} {Q : Value → Shared → Prop}
    (R : Room prog (k + 1) A) (G' : Gl w (frees s.heap X)) (hX : own.map (·.1) = X) (hown : ∀ p ∈ own, s.heap.get? p.1 = some p.2) (hnd : (own.map (·.1)).Nodup)
    (ho : (hd.heap_39 w.params).lookup f = some ⟨oc, od, .func (fnOf name qual params body scope dV kV doc pm an cdv ct), osl⟩) (hcd : codeIn (hd.heap_39 w.params) cdv qual = true)
    (hbind : bindArgs (fnOf name qual params body scope dV kV doc pm an cdv ct) args = pure binds) (hloc : ∀ y ∈ binds, scope.names.lookup y.1 = some .local)
    (hcell : ∀ x ∈ scope.names, x.2 ≠ .cell) (hco : scope.isCoroutine = false) (hgen : scope.isGenerator = false) (hk : scope.kind = .function)
    (h : ∀ L A' s', Room prog k A' → St s (frees s.heap X) L (fun y => binds.reverse.lookup y) own s' →
      wpAny (model prog w) A' (execs body (envOf qual scope L f cdv)) (fun fl s' => match fl with | .ret v => Q v s' | _ => Q .none s') (fun _ _ => False) s') :
    wpAny (model prog w) A (call (.ref f) args.pos args.kw) Q E s :=
  enterT R G' hX hown hnd ho hcd hbind hloc hcell hco hgen hk fun L A' s' R' S _ => h L A' s' R' S
theorem St.glX {own : List (Addr × Obj)} {X : List Addr} (S : St s₀ B L m own s) (G : Gl w B) (h : ∀ x ∈ X, x ∈ own.map (·.1)) : Gl w (frees s.heap X) :=
  G.ext fun b o e => by
    rw [frees_not]
    · exact S.keep b o e
    · intro hb
      obtain ⟨p, hp, rfl⟩ := List.mem_map.mp (h b hb)
      rw [(S.ow p hp).2.2] at e; cases e
theorem nm {x : Str} {pos : Pos} {v : Value} {Q : Value → Shared → Prop} (S : St s₀ B L m own s) (hv : m x = some v) (h : Q v s)
    (hL : env.locals = L := by rfl) (hk : env.scope.kind = .function := by rfl) (hl : env.kindOf x = some .local := by rfl) (hd : (x == ("__debug__" : Str)) = false := by decide) :
    wpAny (model prog w) A (eval (.Name x pos) env) Q E s := wpAny_Name (wpAny_loadName_local hk hl (hL ▸ S.ns) hv h) hd
theorem gnm {x : Str} {pos : Pos} {v : Value} {Q : Value → Shared → Prop} (S : St s₀ B L m own s) (G : Gl w B) (e : nsIn (hd.heap_39 w.params) mainGlobals x = some (some v)) (h : Q v s)
    (hg : env.globals = mainGlobals := by rfl) (hk : env.scope.kind = .function := by rfl) (hx : env.kindOf x = some .globalImplicit := by rfl) (hd : (x == ("__debug__" : Str)) = false := by decide) :
    wpAny (model prog w) A (eval (.Name x pos) env) Q E s := by
  obtain ⟨mg, hn⟩ := (G.ext S.keep).g
  exact Calls.Name_function_global hk hx (Calls.loadGlobal_global (hg ▸ hn) (mg_of (G.ext S.keep).K hn e) h) hd
theorem bnm {x : Str} {pos : Pos} {v : Value} {Q : Value → Shared → Prop} (S : St s₀ B L m own s) (G : Gl w B) (e : nsIn (hd.heap_39 w.params) mainGlobals x = some none) (hv : bootBuiltins x = some v) (hn : x ≠ "__name__") (h : Q v s)
    (hg : env.globals = mainGlobals := by rfl) (hb : env.builtins = builtinsNs := by rfl) (hk : env.scope.kind = .function := by rfl) (hx : env.kindOf x = some .globalImplicit := by rfl) (hd : (x == ("__debug__" : Str)) = false := by decide) :
    wpAny (model prog w) A (eval (.Name x pos) env) Q E s := by
  obtain ⟨mg, hn'⟩ := (G.ext S.keep).g
  obtain ⟨mb, hb', hbb⟩ := (G.ext S.keep).b
  exact Calls.Name_function_global hk hx (Calls.loadGlobal_builtin (hg ▸ hn') (mg_none_of (G.ext S.keep).K hn' e) (hb ▸ hb') ((hbb x hn).trans hv) h) hd
theorem sto {x : Str} {v : Value} {Q : Unit → Shared → Prop} (S : St s₀ B L m own s) (h : ∀ s', St s₀ B L (put x v m) own s' → Q () s')
    (hL : env.locals = L := by rfl) (hk : env.scope.kind = .function := by rfl) (hl : env.kindOf x = some .local := by rfl) : wpAny (model prog w) A (storeName env x v) Q E s := by
  subst hL
  exact wpAny_storeName_local hl S.ns (fun h' hn hs => h _ (S.set hn hs)) (by rw [hk]; rfl)

theorem kint {i : Int} {k : Nat} {pos : Pos} {Q : Value → Shared → Prop} (S : St s₀ B L m own s) (h : ∀ s' t, St s₀ B L m own s' → Q (.int i t) s') : wpAny (model prog w) A (eval (.Constant (.int i) k pos) env) Q E s :=
  wpAny_Constant_int (h _ _ (S.tok _))
theorem kstr {x : Str} {k : Nat} {pos : Pos} {Q : Value → Shared → Prop} (S : St s₀ B L m own s) (h : ∀ s' t, St s₀ B L m own s' → Q (.str x t) s') : wpAny (model prog w) A (eval (.Constant (.str x) k pos) env) Q E s :=
  Calls.Constant_str (h _ _ (S.tok _))

inductive TupD (Q : Value → Shared → Prop) (vs : List Value) (s₁ : Shared) : Prop where
  | mk {s₀ : Shared} {B : Heap} {L : Addr} {m : Str → Option Value} {own : List (Addr × Obj)} (hl : vs.length ≤ 1000) (S : St s₀ B L m own s₁)
    (h : ∀ s' a, St s₀ B L m ((a, { cls := .type "tuple", data := .seq vs.toArray }) :: own) s' → s₁.heap.objs.size ≤ a → Q (.ref a) s') : TupD Q vs s₁
inductive LstD (Q : Value → Shared → Prop) (vs : List Value) (s₁ : Shared) : Prop where
  | mk {s₀ : Shared} {B : Heap} {L : Addr} {m : Str → Option Value} {own : List (Addr × Obj)} (hl : vs.length ≤ 1000) (S : St s₀ B L m own s₁)
    (h : ∀ s' a, St s₀ B L m ((a, listOf vs.toArray 0) :: own) s' → s₁.heap.objs.size ≤ a → Q (.ref a) s') : LstD Q vs s₁
theorem tupN {elts : List PySem.Expr} {k : Nat} {pos : Pos} {Q : Value → Shared → Prop} (h : wpAny (model prog w) A (spliced (backTo pos (starEach elts env))) (TupD Q) E s) : wpAny (model prog w) A (eval (.Tuple elts k pos) env) Q E s :=
  Tuple_ (wpAny_mono h (fun vs s₁ x => x.rec fun hl S h₁ => wpAny_newObj_type (h₁ _ _ (S.push _) (Nat.le_refl _)) (by show vs.toArray.size ≤ sizeLine; rw [List.size_toArray]; exact Nat.le_trans hl (by decide))) fun _ _ e => e)
theorem lstN {elts : List PySem.Expr} {pos : Pos} {Q : Value → Shared → Prop} (h : wpAny (model prog w) A (spliced (backTo pos (starEach elts env))) (LstD Q) E s) : wpAny (model prog w) A (eval (.List elts pos) env) Q E s :=
  List_ (wpAny_mono h (fun vs s₁ x => x.rec fun hl S h₁ => wpAny_newObj_type (h₁ _ _ (S.push _) (Nat.le_refl _)) (by show vs.toArray.size ≤ sizeLine; rw [List.size_toArray]; exact Nat.le_trans hl (by decide))) fun _ _ e => e)

theorem cw {first : List Value} {f : Value} {e : PySem.Expr} {rest : List PySem.Expr} {pos : Pos} {Q : Value → Shared → Prop} (hk : keepIn (hd.heap_39 w.params) f = true)
    (h : wpAny (model prog w) A (spliced (backTo pos (starEach (e :: rest) env))) (fun vs s₁ => (hd.heap_39 w.params).In s₁.heap ∧ wpAny (model prog w) A (call f (first ++ vs)) Q E s₁) E s)
    (he : starEach (e :: rest) env = (false, eval e env) :: starEach rest env := by rfl) (hplain : (backTo pos (starEach rest env)).any (·.1) = false := by rfl) :
    wpAny (model prog w) A (callWith pos f first (backTo pos (starEach (e :: rest) env)) []) Q E s := by
  rw [he] at h ⊢
  exact callWith_of (by show ((false || (backTo pos (starEach rest env)).any (·.1)) || false) = false; rw [hplain]; rfl) (keeps_K hk) (evalArgs_plain h)
theorem cw0 {first : List Value} {f : Value} {pos : Pos} {Q : Value → Shared → Prop} (S : St s₀ B L m own s) (G : Gl w B) (hk : keepIn (hd.heap_39 w.params) f = true) (h : wpAny (model prog w) A (call f (first ++ [])) Q E s) :
    wpAny (model prog w) A (callWith pos f first (backTo pos (starEach [] env)) []) Q E s :=
  callWith_of rfl (keeps_K hk) (evalArgs_nil3 ⟨(G.ext S.keep).K, h⟩)

theorem iadd {a b : Int} {t u : Tok} {Q : Value → Shared → Prop} (S : St s₀ B L m own s) (h : ∀ s' t, St s₀ B L m own s' → Q (.int (a + b) t) s') : wpAny (model prog w) A (binaryOp .Add (.int a t) (.int b u)) Q E s := PyProof.Rows.add_int (h _ _ (S.tok _))
theorem isub {a b : Int} {t u : Tok} {Q : Value → Shared → Prop} (S : St s₀ B L m own s) (h : ∀ s' t, St s₀ B L m own s' → Q (.int (a - b) t) s') : wpAny (model prog w) A (binaryOp .Sub (.int a t) (.int b u)) Q E s := PyProof.Rows.sub_int (h _ _ (S.tok _))
theorem imul {a b : Int} {t u : Tok} {Q : Value → Shared → Prop} (S : St s₀ B L m own s) (hm : IntMulOk a b) (h : ∀ s' t, St s₀ B L m own s' → Q (.int (a * b) t) s') : wpAny (model prog w) A (binaryOp .Mult (.int a t) (.int b u)) Q E s := PyProof.Rows.mul_int (h _ _ (S.tok _)) hm
theorem imod {a b : Int} {t u : Tok} {Q : Value → Shared → Prop} (S : St s₀ B L m own s) (hb : b ≠ 0) (h : ∀ s' t, St s₀ B L m own s' → Q (.int (a.fmod b) t) s') : wpAny (model prog w) A (binaryOp .Mod (.int a t) (.int b u)) Q E s := PyProof.Rows.mod_int' hb (h _ _ (S.tok _))
theorem idiv {k : Nat} {a b : Int} {t u : Tok} {Q : Value → Shared → Prop} (S : St s₀ B L m own s) (G : Gl w B) (R : Room prog k A) (hb : b ≠ 0) (h : ∀ s' t, St s₀ B L m own s' → Q (.int (a.fdiv b) t) s') : wpAny (model prog w) A (binaryOp .FloorDiv (.int a t) (.int b u)) Q E s :=
  PyProof.Rows.floordiv_int hb (h _ _ (S.tok _)) (Or.inr (R.pylong (G.ext S.keep)))
theorem ilt {a b : Int} {t u : Tok} {Q : Value → Shared → Prop} (h : Q (.bool (decide (a < b))) s) : wpAny (model prog w) A (compareOp .Lt (.int a t) (.int b u)) Q E s := PyProof.Rows.lt_int h
theorem igt {a b : Int} {t u : Tok} {Q : Value → Shared → Prop} (h : Q (.bool (decide (b < a))) s) : wpAny (model prog w) A (compareOp .Gt (.int a t) (.int b u)) Q E s := PyProof.Rows.gt_int h
theorem ige {a b : Int} {t u : Tok} {Q : Value → Shared → Prop} (h : Q (.bool (decide (b ≤ a))) s) : wpAny (model prog w) A (compareOp .GtE (.int a t) (.int b u)) Q E s := PyProof.Rows.ge_int h
theorem ieq {a b : Int} {t u : Tok} {Q : Value → Shared → Prop} (h : Q (.bool (a == b)) s) : wpAny (model prog w) A (compareOp .Eq (.int a t) (.int b u)) Q E s := PyProof.Rows.eq_int h
theorem intI {n : Int} {u : Tok} {Q : Value → Shared → Prop} (h : Q (.int n u) s) : wpAny (model prog w) A (call (.type "int") [.int n u]) Q E s := call_int_int h
theorem intB {b : Bool} {Q : Value → Shared → Prop} (S : St s₀ B L m own s) (h : ∀ s' t, St s₀ B L m own s' → Q (.int (if b then 1 else 0) t) s') : wpAny (model prog w) A (call (.type "int") [.bool b]) Q E s := call_int_bool (h _ _ (S.tok _))

theorem subsC {c : Const} {n : Nat} {p : Pos} {o i : Value} : subscripted (.Constant c n p) false o i = operate [o, i] (getItem o i) := by with_unfolding_all rfl
theorem subsN {x : Str} {p : Pos} {o i : Value} : subscripted (.Name x p) false o i = operate [o, i] (getItem o i) := by with_unfolding_all rfl
theorem subsK {f : PySem.Expr} {as : List PySem.Expr} {kw : List Keyword} {p : Pos} {o i : Value} : subscripted (.Call f as kw p) false o i = operate [o, i] (getItem o i) := by with_unfolding_all rfl
theorem litem {value slice : PySem.Expr} {l : Addr} {vs : List Value} {k : Int} {u : Tok} {x : Value} {Q : Value → Shared → Prop} (hl : s.heap.IsList l vs.toArray)
    (h0 : 0 ≤ k) (hfit : k < 2 ^ 63) (hx : vs[k.toNat]? = some x) (h : Q x s)
    (hs : subscripted slice false (.ref l) (.int k u) = operate [.ref l, .int k u] (getItem (.ref l) (.int k u))) :
    wpAny (model prog w) A (subscriptTail value slice (.ref l) (.int k u)) Q E s :=
  tail_any hl.typeIs slot_list_getitem.lookup (wpAny_getItem_list hl h0 hfit (by simpa using hx) h) hs
theorem seqIndex_of {k : Int} {n : Nat} (h0 : 0 ≤ k) (h1 : k < n) : seqIndex? k n = some k.toNat := by
  unfold seqIndex?
  have : ¬ k < 0 := Int.not_lt.mpr h0
  simp only [this, if_false]
  rw [if_pos (by simp [h0, h1])]
theorem titem {value slice : PySem.Expr} {t : Addr} {l : List Value} {k : Int} {u : Tok} {x : Value} {Q : Value → Shared → Prop} (ht : IsTup s.heap t l.toArray) (h0 : 0 ≤ k) (h1 : k < 1000)
    (hx : l[k.toNat]? = some x) (h : Q x s)
    (hs : subscripted slice false (.ref t) (.int k u) = operate [.ref t, .int k u] (getItem (.ref t) (.int k u))) :
    wpAny (model prog w) A (subscriptTail value slice (.ref t) (.int k u)) Q E s :=
  item_tupleT ht (Int.le_trans (by decide) h0) (Int.lt_trans h1 (by decide)) (seqIndex_of h0 ((Int.toNat_lt h0).mp (List.getElem?_eq_some_iff.mp hx).1)) hx h hs
theorem lset {l : Addr} {o : Obj} {f : Obj → List (Addr × Obj)} {vs : List Value} {k : Int} {t : Tok} {v : Value} {Q : Unit → Shared → Prop} (S : St s₀ B L m own s) (hf : At l o own f) (hl : LO vs o)
    (h0 : 0 ≤ k) (hfit : k < 2 ^ 63) (hn : k < vs.length) (h : ∀ s' o', LO (vs.set k.toNat v) o' → St s₀ B L m (f o') s' → Q () s') : wpAny (model prog w) A (setItem (.ref l) (.int k t) v) Q E s := by
  have z := S.at hf
  refine wpAny_setItem_list (hl.isList z.1) h0 hfit (by simpa using hn) fun h' hl' hs => ?_
  obtain ⟨o', ho', hlo⟩ := isList_LO hl'
  exact h { s with heap := h' } o' (by simpa using hlo) (S.turnAt (t := s.toks) hf ho' hs)
theorem lapp {l : Addr} {o : Obj} {f : Obj → List (Addr × Obj)} {vs : List Value} {x : Value} {Q : Value → Shared → Prop} (S : St s₀ B L m own s) (hf : At l o own f) (hl : LO vs o) (hsz : vs.length ≤ 1000)
    (h : ∀ s' o', LO (vs ++ [x]) o' → St s₀ B L m (f o') s' → Q .none s') : wpAny (model prog w) A (call (.builtin "list.append") [.ref l, x]) Q E s := by
  have z := S.at hf
  refine wpAny_list_append (hl.isList z.1) (fun h' hl' hs => ?_) (Nat.le_trans (by simpa using hsz) (show 1000 ≤ sizeLine by decide))
  obtain ⟨o', ho', hlo⟩ := isList_LO hl'
  exact h { s with heap := h' } o' (by simpa using hlo) (S.turnAt (t := s.toks) hf ho' hs)
theorem llen {l : Addr} {vs : List Value} {Q : Value → Shared → Prop} (S : St s₀ B L m own s) (hl : s.heap.IsList l vs.toArray) (hb : vs.length ≤ 1000000) (h : ∀ s' t, St s₀ B L m own s' → Q (.int vs.length t) s') : wpAny (model prog w) A (call (.builtin "len") [.ref l]) Q E s :=
  PyProof.Rows.len_list hl (Int.lt_of_le_of_lt (Int.ofNat_le.mpr hb) (by decide)) (h _ _ (S.tok _))
theorem slen {x : Str} {t : Tok} {Q : Value → Shared → Prop} (S : St s₀ B L m own s) (hb : x.length ≤ 1000000) (h : ∀ s' t, St s₀ B L m own s' → Q (.int x.length t) s') : wpAny (model prog w) A (call (.builtin "len") [.str x t]) Q E s :=
  PyProof.Rows.len_str (Int.not_le.mpr (Int.lt_of_le_of_lt (Int.ofNat_le.mpr hb) (by decide))) (h _ _ (S.tok _))
end
end Mine
end
section
namespace Mine
section
variable {prog : Program} {w : World} {A : Around} {E : Value → Shared → Prop} {s s₀ : Shared} {B B₀ : Heap} {L : Addr} {m : Str → Option Value} {own : List (Addr × Obj)} {env : Env}

theorem St.sub {own' : List (Addr × Obj)} (S : St s₀ B L m own s) (h : List.Sublist own' own) : St s₀ B L m own' s :=
  ⟨S.gens, S.os, S.ns, S.keep, S.noL, fun p hp => S.ow p (h.subset hp), S.nd.sublist (h.map _)⟩
theorem ow0 {P : Addr × Obj → Prop} : ∀ p ∈ ([] : List (Addr × Obj)), P p := fun _ h => nomatch h
theorem ow1 {h : Heap} {a : Addr} {o : Obj} (e : h.get? a = some o) : ∀ p ∈ [(a, o)], h.get? p.1 = some p.2 := fun _ m => List.mem_singleton.mp m ▸ e
theorem nd1 {α : Type} {a : α} : [a].Nodup := .cons (fun _ h => nomatch h) .nil
theorem mem1 {a : Addr} {o : Obj} {l : List (Addr × Obj)} : ∀ x ∈ [a], x ∈ ((a, o) :: l).map (·.1) := fun _ h => List.mem_singleton.mp h ▸ List.mem_cons_self
theorem ntN : ∀ q ∈ ([] : List (Addr × Obj)), NT q.2 := fun _ h => nomatch h
theorem ntC {p : Addr × Obj} {l : List (Addr × Obj)} (h : NT p.2) (t : ∀ q ∈ l, NT q.2) : ∀ q ∈ p :: l, NT q.2 := fun _ m => (List.mem_cons.mp m).elim (fun e => e ▸ h) (t _)
theorem St.drop {p : Addr × Obj} (S : St s₀ B L m (p :: own) s) : St s₀ B L m own s := S.sub (List.sublist_cons_self _ _)

noncomputable def TurnEnd (s₀ : Shared) (B₀ : Heap) (L : Addr) (p : Addr × Obj) (J : Heap → (Str → Option Value) → List (Addr × Obj) → Prop) (R : Result → Shared → Prop) (f : Flow) (s : Shared) : Prop := match f with
  | .next | .cont => E3 fun B m own => A3 (Ext B₀ B) (J B m own) (St s₀ B L m (p :: own) s)
  | .brk => R (.ok .next) s
  | .ret v => R (.ok (.ret v)) s

theorem TurnEnd.mk {p : Addr × Obj} {J : Heap → (Str → Option Value) → List (Addr × Obj) → Prop} {R : Result → Shared → Prop} (S : St s₀ B L m (p :: own) s) (hB : Ext B₀ B) (hJ : J B m own) : TurnEnd s₀ B₀ L p J R .next s := ⟨B, m, own, hB, hJ, S⟩

theorem St.iterDrop {I : Addr} {oI : Obj} {h' : Heap} {tk : Nat} (S : St s₀ B L m ((I, oI) :: own) s) (hk : ∀ b o, b ∉ [I] → s.heap.get? b = some o → h'.get? b = some o) : St s₀ B L m own { s with heap := h', toks := tk } := S.drop1 (s' := { s with heap := h', toks := tk }) ⟨rfl, rfl, hk⟩
theorem St.iterStep {I : Addr} {oI oI' : Obj} {h' : Heap} {tk : Nat} (S : St s₀ B L m ((I, oI) :: own) s) (hk : ∀ b o, b ∉ [I] → s.heap.get? b = some o → h'.get? b = some o) (ho : h'.get? I = some oI') : St s₀ B L m ((I, oI') :: own) { s with heap := h', toks := tk } := S.step1 (s' := { s with heap := h', toks := tk }) ⟨rfl, rfl, hk⟩ ho
theorem stepFrame {I : Addr} {oI : Obj} {fp : List Addr} {H h₁ h₂ : Heap} (hfp : ∀ b ∈ fp, b = I ∨ ∃ o, H.get? b = some o) (e1 : h₁.get? I = some oI) (k1 : Ext H h₁) (k2 : Ext H h₂) (e2 : h₂.get? I = some oI) : ∀ b ∈ fp, ∀ o, h₁.get? b = some o → h₂.get? b = some o := fun b hb o e =>
  (hfp b hb).elim (fun q => by subst q; exact e2.trans (e1.symm.trans e)) fun ⟨_, q⟩ => (k2 _ _ q).trans ((k1 _ _ q).symm.trans e)
theorem loopW {I : Addr} {fp : List Addr} {n : Nat} {P : Nat → Value → Prop} {Sx : Nat → Heap → Prop} {o₀ : Obj} {target : PySem.Expr} {body : List Stmt} {R : Result → Shared → Prop}
    (W : Walks prog w A I fp [I] n P Sx) (hI : ∀ i h, Sx i h → ∃ o, h.get? I = some o ∧ NT o) (hfp : ∀ b ∈ fp, b = I ∨ ∃ o, B₀.get? b = some o)
    (hlet : ∀ i v s Q, Sx (i + 1) s.heap → P i v → Q () s → wpAny (model prog w) A (letOwnedTupleGo target (.ref I) v) Q (fun _ _ => False) s)
    (J : Nat → Heap → (Str → Option Value) → List (Addr × Obj) → Prop) (S : St s₀ B₀ L m ((I, o₀) :: own) s) (hs : Sx 0 s.heap) (hJ : J 0 B₀ m own)
    (turn : ∀ i v B m own s oI, i < n → P i v → Ext B₀ B → J i B m own → NT oI → St s₀ B L m ((I, oI) :: own) s →
      wpAny (model prog w) A (assign target env v) (fun _ s₂ => wpAny (model prog w) A (execs body env) (TurnEnd s₀ B₀ L (I, oI) (J (i + 1)) R) (fun _ _ => False) s₂) (fun _ _ => False) s)
    (done : ∀ B m own s, Ext B₀ B → J n B m own → St s₀ B L m own s → R (.ok .next) s) :
    codeAny (model prog w) A (.forLoop target (.ref I) body [] env) R s := by
  refine codeAny_forLoop_any (fun k s' => E5 fun i B m own oI => A6 (i ≤ n) (k = n - i) (Ext B₀ B) (J i B m own) (St s₀ B L m ((I, oI) :: own) s') (Sx i s'.heap)) ?_ n ⟨0, B₀, m, own, o₀, Nat.zero_le _, rfl, Ext.refl _, hJ, S, hs⟩
  rintro k s' ⟨i, B, m, own, oI, hi, rfl, hB, hJ, S, hs⟩
  by_cases hlt : i < n
  · refine W.item i s' _ _ hlt hs fun v h' tk hP hs' hk => ?_
    obtain ⟨oI', ho', hnt⟩ := hI _ _ hs'
    have S' : St s₀ B L m ((I, oI') :: own) { s' with heap := h', toks := tk } := S.iterStep hk ho'
    refine wpAny_mono (hlet i v { s' with heap := h', toks := tk } (fun _ s₁ => s₁ = { s' with heap := h', toks := tk }) hs' hP rfl) (fun _ s₁ e => ?_) fun _ _ e => e.elim
    subst e
    refine wpAny_mono (turn i v B m own _ oI' hlt hP hB hJ hnt S') (fun _ s₂ h₂ => wpAny_mono h₂ (fun f s₃ h₃ => ?_) fun _ _ e => e.elim) fun _ _ e => e.elim
    have fin : (E3 fun B m own => A3 (Ext B₀ B) (J (i + 1) B m own) (St s₀ B L m ((I, oI') :: own) s₃)) → ∃ m, m < n - i ∧ E5 fun i_1 B m_1 own oI => A6 (i_1 ≤ n) (m = n - i_1) (Ext B₀ B) (J i_1 B m_1 own) (St s₀ B L m_1 ((I, oI) :: own) s₃) (Sx i_1 s₃.heap) := by
      rintro ⟨B₂, m₂, own₂, hB₂, hJ₂, S₂⟩
      refine ⟨n - (i + 1), Nat.sub_succ_lt_self n i hlt, i + 1, B₂, m₂, own₂, oI', hlt, rfl, hB₂, hJ₂, S₂, ?_⟩
      exact W.frame _ _ _ hs' (stepFrame hfp ho' (hB.trans S'.keep) (hB₂.trans S₂.keep) (S₂.ow (I, oI') i0).1)
    cases f with
    | next => exact fin h₃
    | cont => exact fin h₃
    | brk => exact h₃
    | ret v => exact h₃
  · have hin : i = n := Nat.le_antisymm hi (Nat.le_of_not_lt hlt)
    refine W.done s' _ _ (hin ▸ hs) fun h' tk hk => ?_
    exact wpAny_execs_nil (done B m own _ hB (hin ▸ hJ) (S.iterDrop hk))

noncomputable def ForR (M : Model) (A : Around) (env : Env) (E : Value → Shared → Prop) (Q : Flow → Shared → Prop) : Result → Shared → Prop := fun r s' => match r with | .ok f => Q f s' | .error e => cameBackBy M A env E e s'

theorem forList {l : Addr} {vs : List Value} {target : PySem.Expr} {body : List Stmt} {Q : Flow → Shared → Prop} {k : Nat} (R : Room prog k A) (hl : B.IsList l vs.toArray)
    (hlet : ∀ I i v s Q, s.heap.IsListIter I l i → v ∈ vs → Q () s → wpAny (model prog w) A (letOwnedTupleGo target (.ref I) v) Q (fun _ _ => False) s)
    (J : Nat → Heap → (Str → Option Value) → List (Addr × Obj) → Prop) (S : St s₀ B L m own s) (hJ : J 0 B m own)
    (turn : ∀ i v B' m own s p, vs[i]? = some v → Ext B B' → J i B' m own → NT p.2 → St s₀ B' L m (p :: own) s →
      wpAny (model prog w) A (assign target env v) (fun _ s₂ => wpAny (model prog w) A (execs body env) (TurnEnd s₀ B L p (J (i + 1)) (ForR (model prog w) A env E Q)) (fun _ _ => False) s₂) (fun _ _ => False) s)
    (done : ∀ B' m own s, Ext B B' → J vs.length B' m own → St s₀ B' L m own s → Q .next s) :
    wpAny (model prog w) A (pyIter (.ref l)) (fun it s₂ => codeAny (model prog w) A (.forLoop target it body [] env) (fun r s' => match r with | .ok f => Q f s' | .error e => cameBackBy (model prog w) A env E e s') s₂) E s := by
  have hl' : s.heap.IsList l vs.toArray := hl.at fun o e => S.keep l o e
  obtain ⟨ol, hol, _⟩ := id hl
  have hlt : l < s.heap.objs.size := Heap.lt_size (S.keep _ _ hol)
  refine wpAny_pyIter_list hl' ?_
  refine loopW (R := ForR (model prog w) A env E Q) (Walks.list R.h s.heap.objs.size l (Nat.ne_of_lt hlt) vs.toArray) (fun i h x => ?_) (fun b hb => ?_) (fun i v s Q h hv hq => hlet _ _ _ _ _ h.1 (by simpa using Array.mem_of_getElem? hv) hq) (fun i => J i)
    (S.push (t := s.toks) { cls := .type "list_iterator", data := .fields #[.ref l, .int 0 0] }) ⟨⟨_, Heap.get?_push_size _ rfl, rfl, rfl⟩, hl'.push _⟩ hJ (fun i v B' m own s oI hi hv hB hJ hnt S => turn i v B' m own s _ (by simpa using hv) hB hJ hnt S) (fun B' m own s hB hJ S => done B' m own s hB (by simpa using hJ) S)
  · obtain ⟨⟨o, ho, _, hd⟩, _⟩ := x
    exact ⟨o, ho, NT.fields hd⟩
  · rcases List.mem_cons.mp hb with rfl | hb
    · exact .inl rfl
    · exact .inr ⟨ol, by rw [List.mem_singleton.mp hb]; exact hol⟩

theorem let_name {x : Str} {p : Pos} (I : Addr) (v : Value) (s : Shared) (Q : Unit → Shared → Prop) (hq : Q () s) : wpAny (model prog w) A (letOwnedTupleGo (.Name x p) (.ref I) v) Q (fun _ _ => False) s := wpAny_pure hq

theorem forRange {n : Int} {tn : Tok} {target : PySem.Expr} {body : List Stmt} {Q : Flow → Shared → Prop} {k : Nat} (R : Room prog k A) (h0 : 0 ≤ n) (hn : n ≤ 1000000)
    (hlet : ∀ I v s Q, Q () s → wpAny (model prog w) A (letOwnedTupleGo target (.ref I) v) Q (fun _ _ => False) s)
    (J : Nat → Heap → (Str → Option Value) → List (Addr × Obj) → Prop) (S : St s₀ B L m own s) (hJ : J 0 B m own)
    (turn : ∀ i t B' m own s p, i < n.toNat → Ext B B' → J i B' m own → NT p.2 → St s₀ B' L m (p :: own) s →
      wpAny (model prog w) A (assign target env (.int (i : Int) t)) (fun _ s₂ => wpAny (model prog w) A (execs body env) (TurnEnd s₀ B L p (J (i + 1)) (ForR (model prog w) A env E Q)) (fun _ _ => False) s₂) (fun _ _ => False) s)
    (done : ∀ B' m own s, Ext B B' → J n.toNat B' m own → St s₀ B' L m own s → Q .next s) :
    wpAny (model prog w) A (call (.type "range") [.int n tn]) (fun x s₁ => wpAny (model prog w) A (pyIter x) (fun it s₂ => codeAny (model prog w) A (.forLoop target it body [] env) (fun r s' => match r with | .ok f => Q f s' | .error e => cameBackBy (model prog w) A env E e s') s₂) E s₁) E s := by
  refine call_range_1 ?_
  have S₁ := S.push (t := s.toks + 1 + 1) { cls := .type "range", data := .fields #[.int 0 s.toks, .int n tn, .int 1 (s.toks + 1)] }
  refine wpAny_pyIter_range (IsRange.new ..) (small_one (by decide) (by decide) (Int.le_trans (by decide) h0) (Int.lt_of_le_of_lt hn (by decide))) ?_
  have S₂ := (S₁.drop).push (t := s.toks + 1 + 1) { cls := .type "range_iterator", data := .fields #[rawInt 0, rawInt (Builtin.Range.rangeSize 0 n 1), rawInt 1] }
  have hsz : Builtin.Range.rangeSize 0 n 1 = ((n.toNat : Nat) : Int) := by rw [rangeSize_nat, Int.sub_zero]
  refine loopW (R := ForR (model prog w) A env E Q) (n := n.toNat) (Walks.range R.h _ 0 1 n.toNat) (fun i h x => ⟨_, x, NT.fields rfl⟩) (fun b hb => .inl (by simpa using hb)) (fun i v s Q h hv hq => hlet _ _ _ _ hq) J S₂ ?_ hJ (fun i v B' m own s oI hi hv hB hJ hnt S => ?_) (fun B' m own s hB hJ S => done B' m own s hB hJ S)
  · rw [hsz]
    simp only [Int.natCast_zero, Int.zero_mul, Int.sub_zero]
    exact Heap.get?_push_size _ rfl
  · obtain ⟨t, rfl⟩ := hv
    have := turn i t B' m own s _ hi hB hJ hnt S
    simpa using this

theorem forKeys {d : Addr} {kvs : List (Str × Value)} {target : PySem.Expr} {body : List Stmt} {Q : Flow → Shared → Prop} {k : Nat} (R : Room prog k A) (hsys : (d == sysModules) = false) (hd : B.DictOf (PySem.strKind prog w) d kvs)
    (hlet : ∀ I v s Q, Q () s → wpAny (model prog w) A (letOwnedTupleGo target (.ref I) v) Q (fun _ _ => False) s)
    (J : Nat → Heap → (Str → Option Value) → List (Addr × Obj) → Prop) (S : St s₀ B L m own s) (hJ : J 0 B m own)
    (turn : ∀ i x v t B' m own s p, kvs[i]? = some (x, v) → Ext B B' → J i B' m own → NT p.2 → St s₀ B' L m (p :: own) s →
      wpAny (model prog w) A (assign target env (.str x t)) (fun _ s₂ => wpAny (model prog w) A (execs body env) (TurnEnd s₀ B L p (J (i + 1)) (ForR (model prog w) A env E Q)) (fun _ _ => False) s₂) (fun _ _ => False) s)
    (done : ∀ B' m own s, Ext B B' → J kvs.length B' m own → St s₀ B' L m own s → Q .next s) :
    wpAny (model prog w) A (pyIter (.ref d)) (fun it s₂ => codeAny (model prog w) A (.forLoop target it body [] env) (fun r s' => match r with | .ok f => Q f s' | .error e => cameBackBy (model prog w) A env E e s') s₂) E s := by
  obtain ⟨o, es, ep, ho, r⟩ := id hd
  have hd' : s.heap.DictAt (PySem.strKind prog w) d kvs ep := ⟨o, es, S.keep _ _ ho, r⟩
  have hlt : d < s.heap.objs.size := Heap.lt_size (S.keep _ _ ho)
  refine wpAny_pyIter_dict hsys hd' ?_
  refine loopW (R := ForR (model prog w) A env E Q) (Walks.dictKeys (knd := PySem.strKind prog w) R.h s.heap.objs.size d (Nat.ne_of_lt hlt) kvs ep) (fun i h x => ?_) (fun b hb => ?_) (fun i v s Q h hv hq => hlet _ _ _ _ hq) J
    (S.push (t := s.toks) { cls := .type "dict_keyiterator", data := .fields #[.ref d, .int 0 0, .int kvs.length 0, .int ep 0] }) ⟨⟨_, Heap.get?_push_size _ rfl, rfl, rfl⟩, hd'.at' fun o e => Heap.get?_push_of_some _ e⟩ hJ (fun i v B' m own s oI hi hv hB hJ hnt S => ?_) (fun B' m own s hB hJ S => done B' m own s hB hJ S)
  · obtain ⟨⟨o, ho, _, hd⟩, _⟩ := x
    exact ⟨o, ho, NT.fields hd⟩
  · rcases List.mem_cons.mp hb with rfl | hb
    · exact .inl rfl
    · exact .inr ⟨o, by rw [List.mem_singleton.mp hb]; exact ho⟩
  · obtain ⟨x, v', hk, hx⟩ := hv
    obtain ⟨t, rfl⟩ := Value.isStrOf_shape hx
    exact turn i x v' t B' m own s _ hk hB hJ hnt S

theorem assName {x : Str} {p : Pos} {v : Value} {Q : Unit → Shared → Prop} (S : St s₀ B L m own s) (h : ∀ s', St s₀ B L (put x v m) own s' → Q () s')
    (hL : env.locals = L := by rfl) (hk : env.scope.kind = .function := by rfl) (hl : env.kindOf x = some .local := by rfl) : wpAny (model prog w) A (assign (.Name x p) env v) Q E s :=
  wpAny_assign_Name (sto S h hL hk hl)
theorem assTup {elts : List PySem.Expr} {k : Nat} {pos : Pos} {t : Addr} {vs : List Value} {Q : Unit → Shared → Prop} {j : Nat} (R : Room prog j A) (S : St s₀ B L m own s) (ht : IsTup s.heap t vs.toArray)
    (h : ∀ s', St s₀ B L m own s' → wpAny (model prog w) A (assignInOrder ((assignEach elts env).map (·.2)) vs) Q E s')
    (hn : (assignEach elts env).length = vs.length := by rfl) (hstar : (assignEach elts env).findIdx? (·.1) = none := by rfl) :
    wpAny (model prog w) A (assign (.Tuple elts k pos) env (.ref t)) Q E s :=
  wpAny_assign_Tuple R.h ht (by simpa using hn) hstar fun h' he => h _ (S.grow (t := s.toks) fun b o e => he b o (Nat.ne_of_lt (Heap.lt_size e)) e)
theorem assCons {x : Str} {p : Pos} {es : List PySem.Expr} {v : Value} {vs : List Value} {Q : Unit → Shared → Prop}
    (h : wpAny (model prog w) A (assign (.Name x p) env v) (fun _ s' => wpAny (model prog w) A (assignInOrder ((assignEach es env).map (·.2)) vs) Q E s') E s) :
    wpAny (model prog w) A (assignInOrder ((assignEach (.Name x p :: es) env).map (·.2)) (v :: vs)) Q E s := wpAny_assignInOrder_more h
theorem assNil {Q : Unit → Shared → Prop} (h : Q () s) : wpAny (model prog w) A (assignInOrder ((assignEach [] env).map (·.2)) []) Q E s := wpAny_assignInOrder_none h
theorem let_list {elts : List PySem.Expr} {x1 : Nat} {p : Pos} {l : Addr} (I : Addr) (i : Nat) (T : Addr) (s : Shared) (Q : Unit → Shared → Prop) (h : s.heap.IsListIter I l i) (hq : Q () s) : wpAny (model prog w) A (letOwnedTupleGo (.Tuple elts x1 p) (.ref I) (.ref T)) Q (fun _ _ => False) s :=
  wpAny_letOwnedTupleGo_listiter h hq
theorem let_tup {elts : List PySem.Expr} {x1 : Nat} {p : Pos} {l : Addr} (I : Addr) (i : Nat) (T : Addr) (s : Shared) (Q : Unit → Shared → Prop) (h : s.heap.IsTupleIter I l i) (hq : Q () s) : wpAny (model prog w) A (letOwnedTupleGo (.Tuple elts x1 p) (.ref I) (.ref T)) Q (fun _ _ => False) s := by
  obtain ⟨o, ho, hc, hd⟩ := h
  unfold letOwnedTupleGo
  refine wpAny_bind (wpAny_load ho ?_)
  rw [hc, hd]
  show wpAny _ A (if (["enumerate", "zip", "dict_itemiterator", "dict_reverseitemiterator", "odict_iterator", "itertools.zip_longest", "itertools.pairwise"].contains "tuple_iterator" &&
      (#[.ref l, .int i 0] : Array Value)[0]? == some (rawInt T)) = true then _ else _) Q _ s
  rw [if_neg (by
    intro h
    rw [show (["enumerate", "zip", "dict_itemiterator", "dict_reverseitemiterator", "odict_iterator", "itertools.zip_longest", "itertools.pairwise"].contains "tuple_iterator") = false from by decide, Bool.false_and] at h
    cases h)]
  exact wpAny_pure hq
theorem forTup {l : Addr} {vs : List Value} {target : PySem.Expr} {body : List Stmt} {Q : Flow → Shared → Prop} {k : Nat} (R : Room prog k A) (hl : IsTup B l vs.toArray)
    (hlet : ∀ I i v s Q, s.heap.IsTupleIter I l i → v ∈ vs → Q () s → wpAny (model prog w) A (letOwnedTupleGo target (.ref I) v) Q (fun _ _ => False) s)
    (J : Nat → Heap → (Str → Option Value) → List (Addr × Obj) → Prop) (S : St s₀ B L m own s) (hJ : J 0 B m own)
    (turn : ∀ i v B' m own s p, vs[i]? = some v → Ext B B' → J i B' m own → NT p.2 → St s₀ B' L m (p :: own) s →
      wpAny (model prog w) A (assign target env v) (fun _ s₂ => wpAny (model prog w) A (execs body env) (TurnEnd s₀ B L p (J (i + 1)) (ForR (model prog w) A env E Q)) (fun _ _ => False) s₂) (fun _ _ => False) s)
    (done : ∀ B' m own s, Ext B B' → J vs.length B' m own → St s₀ B' L m own s → Q .next s) :
    wpAny (model prog w) A (pyIter (.ref l)) (fun it s₂ => codeAny (model prog w) A (.forLoop target it body [] env) (fun r s' => match r with | .ok f => Q f s' | .error e => cameBackBy (model prog w) A env E e s') s₂) E s := by
  have hl' : s.heap.IsTuple l vs.toArray := IsTup.keeps hl S.keep
  obtain ⟨ol, hol, _⟩ := id hl
  have hlt : l < s.heap.objs.size := Heap.lt_size (S.keep _ _ hol)
  refine wpAny_pyIter_tuple hl' ?_
  refine loopW (R := ForR (model prog w) A env E Q) (Walks.tuple R.h s.heap.objs.size l (Nat.ne_of_lt hlt) vs.toArray) (fun i h x => ?_) (fun b hb => ?_) (fun i v s Q h hv hq => hlet _ _ _ _ _ h.1 (by simpa using Array.mem_of_getElem? hv) hq) (fun i => J i)
    (S.push (t := s.toks) { cls := .type "tuple_iterator", data := .fields #[.ref l, .int 0 0] }) ⟨⟨_, Heap.get?_push_size _ rfl, rfl, rfl⟩, hl'.push _⟩ hJ (fun i v B' m own s oI hi hv hB hJ hnt S => turn i v B' m own s _ (by simpa using hv) hB hJ hnt S) (fun B' m own s hB hJ S => done B' m own s hB (by simpa using hJ) S)
  · obtain ⟨⟨o, ho, _, hd⟩, _⟩ := x
    exact ⟨o, ho, NT.fields hd⟩
  · rcases List.mem_cons.mp hb with rfl | hb
    · exact .inl rfl
    · exact .inr ⟨ol, by rw [List.mem_singleton.mp hb]; exact hol⟩
end
end Mine
end
section
namespace Mine
section
variable {prog : Program} {w : World} {A : Around} {E : Value → Shared → Prop} {s s₀ : Shared} {B B₀ : Heap} {L : Addr} {m : Str → Option Value} {own : List (Addr × Obj)} {env : Env}

noncomputable def LX (vs : List Value) (o : Obj) : Prop := ∃ n, o = listOf vs.toArray n
theorem LX.lo {vs : List Value} {o : Obj} (x : LX vs o) : LO vs o := by obtain ⟨n, rfl⟩ := x; exact LO.listOf vs n
theorem LX.listOf (vs : List Value) (n : Nat) : LX vs (PySem.W.listOf vs.toArray n) := ⟨n, rfl⟩
theorem lappX {l : Addr} {o : Obj} {f : Obj → List (Addr × Obj)} {vs : List Value} {x : Value} {Q : Value → Shared → Prop} (S : St s₀ B L m own s) (hf : At l o own f) (hl : LX vs o) (hsz : vs.length ≤ 1000)
    (h : ∀ s' o', LX (vs ++ [x]) o' → St s₀ B L m (f o') s' → Q .none s') : wpAny (model prog w) A (call (.builtin "list.append") [.ref l, x]) Q E s := by
  obtain ⟨n, rfl⟩ := hl
  have z := S.at hf
  refine append_at z.1 (fun h' hs ho' => ?_) (Nat.le_trans (by simpa using hsz) (show 1000 ≤ sizeLine by decide))
  exact h { s with heap := h' } _ ⟨n + 1, rfl⟩ (S.turnAt (t := s.toks) hf (by simpa using ho') hs)
abbrev testsOf (ifs : List PySem.Expr) (env : Env) : Sem Bool := forIn ifs true fun c r => if r = true then do let ok ← isTrue c env (eval c env); pure (ForInStep.yield ok) else pure (ForInStep.yield r)

abbrev NoE : Value → Shared → Prop := fun _ _ => False

theorem compTurns {elt target iter : PySem.Expr} {ifs : List PySem.Expr} {scope : Scope} {pos : Pos} {it acc : Value} {R : Result → Shared → Prop} (I : Nat → Shared → Prop)
    (turn : ∀ n s, I n s → wpAny (model prog w) A (pyNext it) (fun r s₁ => match r with
      | none => R (.ok .next) s₁
      | some v => wpAny (model prog w) A (letOwnedTupleGo target it v) (fun _ s₂ => wpAny (model prog w) A (assign target env v) (fun _ s₃ => wpAny (model prog w) A (testsOf ifs env) (fun ok s₄ =>
          if ok = true then wpAny (model prog w) A (eval elt env) (fun x s₅ => wpAny (model prog w) A (call (.builtin "list.append") [acc, x]) (fun _ s₆ => ∃ j, j < n ∧ I j s₆) NoE s₅) NoE s₄
          else ∃ j, j < n ∧ I j s₄) NoE s₃) NoE s₂) NoE s₁) NoE s)
    (n : Nat) (h : I n s) : codeAny (model prog w) A (.compLoop (.ListComp elt [⟨target, iter, ifs, 0⟩] scope pos) 0 it acc env) R s := by
  refine codeAny_loop rfl I (fun n s hI => ?_) n h
  show wpAny _ A ((compTurn (.ListComp elt [⟨target, iter, ifs, 0⟩] scope pos) 0 it acc env).onRaise (fun x => do noteFrame x env; theTreesLotGoes x)) _ _ s
  refine wpAny_noted ?_
  rw [compTurn_list]
  refine wpAny_bind (wpAny_standAt (wpAny_bind (wpAny_mono (turn n s hI) (fun r s₁ h₁ => ?_) fun _ _ e => e.elim)))
  cases r with
  | none => exact wpAny_pure h₁
  | some v =>
    refine wpAny_bind (wpAny_mono h₁ (fun _ s₂ h₂ => ?_) fun _ _ e => e.elim)
    refine wpAny_bind (wpAny_mono h₂ (fun _ s₃ h₃ => ?_) fun _ _ e => e.elim)
    refine wpAny_bind (wpAny_mono h₃ (fun ok s₄ h₄ => ?_) fun _ _ e => e.elim)
    cases ok with
    | false => exact wpAny_pure ⟨rfl, h₄⟩
    | true =>
      refine wpAny_bind (wpAny_bind (wpAny_mono h₄ (fun x s₅ h₅ => ?_) fun _ _ e => e.elim))
      exact wpAny_bind (wpAny_mono h₅ (fun _ s₆ h₆ => wpAny_pure (wpAny_pure ⟨rfl, h₆⟩)) fun _ _ e => e.elim)

noncomputable def CompEnd (s₀ : Shared) (B₀ : Heap) (C : Addr) (p d q : Addr × Obj) (J : List Value → Heap → List (Addr × Obj) → Prop) (acc : List Value) (s : Shared) : Prop :=
  E3 fun B m own => A3 (Ext B₀ B) (J acc B own) (St s₀ B C m (p :: d :: q :: own) s)

theorem compCore {I : Addr} {fp : List Addr} {n : Nat} {P : Nat → Value → Prop} {Sx : Nat → Heap → Prop} {oI : Obj} {elt target iter : PySem.Expr} {ifs : List PySem.Expr} {scope : Scope} {cl : List (Str × Addr)} {pos : Pos} {Q : Value → Shared → Prop} {k : Nat} {use : Option (Value → Sem Unit)}
    (_R : Room prog k A) (W : Walks prog w A I fp [I] n P Sx) (hI : ∀ i h, Sx i h → ∃ o, h.get? I = some o ∧ NT o) (hfp : ∀ b ∈ fp, b = I ∨ ∃ o, B.get? b = some o) (hn : n ≤ 500)
    (hlet : ∀ i v s Q, Sx (i + 1) s.heap → P i v → Q () s → wpAny (model prog w) A (letOwnedTupleGo target (.ref I) v) Q NoE s)
    (hcell : ∀ y ∈ scope.names, y.2 ≠ .cell) (hkind : scope.kind = .function)
    (J : Nat → List Value → Heap → List (Addr × Obj) → Prop) (S : St s₀ B L m ((I, oI) :: own) s) (hs : Sx 0 s.heap) (hJ : J 0 [] B own)
    (turn : ∀ C i v acc B' mc own s p d q, i < n → P i v → Ext B B' → J i acc B' own → acc.length ≤ i → LX acc d.2 → q.1 = L → NT p.2 → NT q.2 → St s₀ B' C mc (p :: d :: q :: own) s →
      wpAny (model prog w) A (assign target (compEnvC scope cl C env) v) (fun _ s₂ => wpAny (model prog w) A (testsOf ifs (compEnvC scope cl C env)) (fun ok s₃ =>
        if ok = true then wpAny (model prog w) A (eval elt (compEnvC scope cl C env)) (fun x s₄ => CompEnd s₀ B C p d q (J (i + 1)) (acc ++ [x]) s₄) NoE s₃
        else CompEnd s₀ B C p d q (J (i + 1)) acc s₃) NoE s₂) NoE s)
    (fin : ∀ C acc B' mc own s (d q : Addr × Obj), Ext B B' → J n acc B' own → acc.length ≤ n → LX acc d.2 → q.1 = L → (∀ h : Heap, h.get? L = some q.2 → h.Ns L m) → St s₀ B' C mc (d :: q :: own) s → compPost (model prog w) A E use Q (.ref d.1) C (.ok .next) s) :
    wpAny (model prog w) A (newList []) (fun acc s₃ => wpAny (model prog w) A (newFunctionEnv scope env.globals cl [] env.qual none .none (some env)) (fun cenv s₄ =>
      codeAny (model prog w) A (.compStart (.ListComp elt [⟨target, iter, ifs, 0⟩] scope pos) 0 (.ref I) acc { cenv with scope := relabel scope env }) (compPost (model prog w) A E use Q acc cenv.locals) s₄) E s₃) E s := by
  refine wpAny_newObj_type (wpAny_newFunctionEnv hcell (by intro y hy; simp at hy) (fun h₁ hns₁ hsb₁ => ?_) hkind)
  dsimp only at hns₁ hsb₁ ⊢
  obtain ⟨oL, esL, epL, hoL, rL⟩ := id S.ns
  -- the list that is filled
  have SD := S.push (t := s.toks) { cls := .type "list", data := .seq ([] : List Value).toArray }
  generalize hD : s.heap.objs.size = D at SD hns₁ hsb₁ ⊢
  generalize hH : s.heap.push { cls := .type "list", dict := none, data := .seq ([] : List Value).toArray } = H at SD hns₁ hsb₁ ⊢
  generalize hC : H.objs.size = C at hns₁ hsb₁ ⊢
  have hCn : H.get? C = none := hC ▸ get_size H
  have keepC : Ext H h₁ := fun b o e => hsb₁.extBut b o (Nat.ne_of_lt (hC ▸ Heap.lt_size e)) (Heap.get?_push_of_some _ e)
  have hLH : H.get? L = some oL := by rw [← hH]; exact Heap.get?_push_of_some _ hoL
  -- the comprehension's own frame
  have S₁ := (SD.inner (t := s.toks + ([] : List (Str × Value)).length) hns₁ keepC hCn hLH).perm (((List.Perm.swap _ _ _).cons _).trans ((List.Perm.swap _ _ _).trans ((List.Perm.swap _ _ _).cons _)))
  have hs₁ : Sx 0 h₁ := W.frame _ _ _ hs fun b _ o e => keepC _ _ (by rw [← hH]; exact Heap.get?_push_of_some _ e)
  have loop : codeAny (model prog w) A (.compLoop (.ListComp elt [⟨target, iter, ifs, 0⟩] scope pos) 0 (.ref I) (.ref D) (compEnvC scope cl C env)) (compPost (model prog w) A E use Q (.ref D) C) { s with heap := h₁, toks := s.toks + ([] : List (Str × Value)).length } := by
    refine compTurns (fun j s' => E7 fun i acc B' mc own oI oD => A8 (i ≤ n) (j = n - i) (Ext B B') (J i acc B' own) (acc.length ≤ i) (LX acc oD) (St s₀ B' C mc ((I, oI) :: (D, oD) :: (L, oL) :: own) s') (Sx i s'.heap)) ?_ n
      ⟨0, [], B, _, own, oI, _, Nat.zero_le _, rfl, Ext.refl _, hJ, Nat.le_refl _, ⟨0, rfl⟩, S₁, hs₁⟩
    rintro j s' ⟨i, acc, B', mc, own, oI, oD, hi, rfl, hB, hJ, hacc, hlo, S, hs⟩
    by_cases hlt : i < n
    · refine W.item i s' _ _ hlt hs fun v h' tk hP hs' hk => ?_
      obtain ⟨oI', ho', hnt⟩ := hI _ _ hs'
      have S' : St s₀ B' C mc ((I, oI') :: (D, oD) :: (L, oL) :: own) { s' with heap := h', toks := tk } := S.iterStep hk ho'
      refine wpAny_mono (hlet i v { s' with heap := h', toks := tk } (fun _ s₁ => s₁ = { s' with heap := h', toks := tk }) hs' hP rfl) (fun _ s₁ e => ?_) fun _ _ e => e
      subst e
      have fin : ∀ (acc' : List Value) (s₃ : Shared) (oD' : Obj) (B₂ : Heap) (m₂ : Str → Option Value) (own₂ : List (Addr × Obj)), Ext B B₂ → J (i + 1) acc' B₂ own₂ → acc'.length ≤ i + 1 → LX acc' oD' → St s₀ B₂ C m₂ ((I, oI') :: (D, oD') :: (L, oL) :: own₂) s₃ →
          ∃ j, j < n - i ∧ E7 fun i acc B' mc own oI oD => A8 (i ≤ n) (j = n - i) (Ext B B') (J i acc B' own) (acc.length ≤ i) (LX acc oD) (St s₀ B' C mc ((I, oI) :: (D, oD) :: (L, oL) :: own) s₃) (Sx i s₃.heap) := by
        intro acc' s₃ oD' B₂ m₂ own₂ hB₂ hJ₂ hl₂ hlo₂ S₂
        refine ⟨n - (i + 1), Nat.sub_succ_lt_self n i hlt, i + 1, acc', B₂, m₂, own₂, oI', oD', hlt, rfl, hB₂, hJ₂, hl₂, hlo₂, S₂, ?_⟩
        exact W.frame _ _ _ hs' (stepFrame hfp ho' (hB.trans S'.keep) (hB₂.trans S₂.keep) (S₂.ow (I, oI') i0).1)
      refine wpAny_mono (turn C i v acc B' mc own _ (I, oI') (D, oD) (L, oL) hlt hP hB hJ hacc hlo rfl hnt (NT.dict rL.1) S') (fun _ s₂ h₂ => wpAny_mono h₂ (fun ok s₃ h₃ => ?_) fun _ _ e => e) fun _ _ e => e
      cases ok with
      | false =>
        simp only [Bool.false_eq_true, if_false] at h₃ ⊢
        obtain ⟨B₂, m₂, own₂, a, b, c⟩ := h₃
        exact fin acc s₃ oD B₂ m₂ own₂ a b (Nat.le_succ_of_le hacc) hlo c
      | true =>
        simp only [if_true] at h₃ ⊢
        refine wpAny_mono h₃ (fun x s₄ h₄ => ?_) fun _ _ e => e
        obtain ⟨B₂, m₂, own₂, a, b, c⟩ := h₄
        exact lappX c (At.tail At.head) hlo (Nat.le_trans hacc (Nat.le_trans (Nat.le_of_lt hlt) (Nat.le_trans ‹n ≤ 500› (by decide)))) fun s₅ o' hlo' S₅ => fin _ s₅ o' B₂ m₂ own₂ a b (by rw [List.length_append]; exact Nat.add_le_add_right hacc 1) hlo' S₅
    · have hin : i = n := Nat.le_antisymm hi (Nat.le_of_not_lt hlt)
      refine W.done s' _ _ (hin ▸ hs) fun h' tk hk => ?_
      exact fin C acc B' mc own _ (D, oD) (L, oL) hB (hin ▸ hJ) (hin ▸ hacc) hlo rfl (fun h e => ⟨oL, esL, epL, e, rL⟩) (S.iterDrop (tk := tk) hk)
  exact codeAny_compStart_list loop (W.self 0 _ _ _ hs₁ loop)


theorem St.outer {C : Addr} {mc : Str → Option Value} {d q : Addr × Obj} (S : St s₀ B C mc (d :: q :: own) s) (hq : q.1 = L) (hL : ∀ h : Heap, h.get? L = some q.2 → h.Ns L m) : ∃ oC, (∀ h : Heap, h.get? C = some oC → h.Ns C mc) ∧ St s₀ B L m ((C, oC) :: d :: own) s := by
  obtain ⟨oC, es, ep, hC, r⟩ := S.ns
  subst hq
  have S' := S.perm (.swap d q own)
  have zq := S'.ow q i0
  have nd := List.nodup_cons.mp (show (q.1 :: (d :: own).map (·.1)).Nodup from S'.nd)
  refine ⟨oC, fun h e => ⟨oC, es, ep, e, r⟩, S.gens, S.os, hL _ zq.1, S.keep, zq.2.2, fun p hp => ?_, List.nodup_cons.mpr ⟨fun hm => ?_, nd.2⟩⟩
  · exact (List.mem_cons.mp hp).elim (fun e => by subst e; exact ⟨hC, Ne.symm zq.2.1, S.noL⟩) fun hp => ⟨(S'.ow p (.tail _ hp)).1, fun e => nd.1 (List.mem_map.mpr ⟨p, hp, e⟩), (S'.ow p (.tail _ hp)).2.2⟩
  · exact (List.mem_map.mp hm).elim fun p hp => (S'.ow p (.tail _ hp.1)).2.1 hp.2
theorem St.letGo {c : Addr × Obj} {h' : Heap} (S : St s₀ B L m (c :: own) s) (hs : Heap.SameBut c.1 s.heap h') : St s₀ B L m own { s with heap := h' } :=
  S.iterDrop (I := c.1) (oI := c.2) (tk := s.toks) fun b o n e => (hs.2 b (by simpa using n)).trans e
theorem finNone {C : Addr} {mc : Str → Option Value} {d q : Addr × Obj} {Q : Value → Shared → Prop} (S : St s₀ B C mc (d :: q :: own) s) (hq : q.1 = L) (hL : ∀ h : Heap, h.get? L = some q.2 → h.Ns L m) (h : ∀ s', St s₀ B L m (d :: own) s' → Q (.ref d.1) s') :
    compPost (model prog w) A E none Q (.ref d.1) C (.ok .next) s := by
  obtain ⟨oC, hC, S'⟩ := S.outer hq hL
  exact ⟨mc, S.ns, fun h' hs => h _ (S'.letGo (c := (C, oC)) hs)⟩
theorem finUse {C : Addr} {mc : Str → Option Value} {d q : Addr × Obj} {u : Value → Sem Unit} {Q : Value → Shared → Prop} (S : St s₀ B C mc (d :: q :: own) s) (hq : q.1 = L) (hL : ∀ h : Heap, h.get? L = some q.2 → h.Ns L m)
    (h : ∀ c s', St s₀ B L m (c :: d :: own) s' → wpAny (model prog w) A (u (.ref d.1)) (fun _ s'' => E3 fun B'' m' own'' => St s₀ B'' L m' (c :: own'') s'' ∧ ∀ s₃, St s₀ B'' L m' own'' s₃ → Q .none s₃) E s') :
    compPost (model prog w) A E (some u) Q (.ref d.1) C (.ok .next) s := by
  obtain ⟨oC, hC, S'⟩ := S.outer hq hL
  refine wpAny_mono (h (C, oC) s S') (fun _ s'' h₂ => ?_) fun _ _ e => e
  obtain ⟨B'', m', own'', S'', hq⟩ := h₂
  exact ⟨mc, hC _ (S''.ow (C, oC) (by first | exact i0 | exact i1 | exact i2 | exact i3 | exact i4 | simp)).1, fun h' hs => hq _ (S''.letGo (c := (C, oC)) hs)⟩

theorem compW {I : Addr} {fp : List Addr} {n : Nat} {P : Nat → Value → Prop} {Sx : Nat → Heap → Prop} {oI : Obj} {elt target iter : PySem.Expr} {ifs : List PySem.Expr} {scope : Scope} {cl : List (Str × Addr)} {pos : Pos} {Q : Value → Shared → Prop} {k : Nat}
    (_R : Room prog k A) (W : Walks prog w A I fp [I] n P Sx) (hI : ∀ i h, Sx i h → ∃ o, h.get? I = some o ∧ NT o) (hfp : ∀ b ∈ fp, b = I ∨ ∃ o, B.get? b = some o) (hn : n ≤ 500)
    (hlet : ∀ i v s Q, Sx (i + 1) s.heap → P i v → Q () s → wpAny (model prog w) A (letOwnedTupleGo target (.ref I) v) Q NoE s)
    (hcell : ∀ y ∈ scope.names, y.2 ≠ .cell) (hkind : scope.kind = .function)
    (J : Nat → List Value → Heap → List (Addr × Obj) → Prop) (S : St s₀ B L m ((I, oI) :: own) s) (hs : Sx 0 s.heap) (hJ : J 0 [] B own)
    (turn : ∀ C i v acc B' mc own s p d q, i < n → P i v → Ext B B' → J i acc B' own → acc.length ≤ i → LX acc d.2 → q.1 = L → NT p.2 → NT q.2 → St s₀ B' C mc (p :: d :: q :: own) s →
      wpAny (model prog w) A (assign target (compEnvC scope cl C env) v) (fun _ s₂ => wpAny (model prog w) A (testsOf ifs (compEnvC scope cl C env)) (fun ok s₃ =>
        if ok = true then wpAny (model prog w) A (eval elt (compEnvC scope cl C env)) (fun x s₄ => CompEnd s₀ B C p d q (J (i + 1)) (acc ++ [x]) s₄) NoE s₃
        else CompEnd s₀ B C p d q (J (i + 1)) acc s₃) NoE s₂) NoE s)
    (done : ∀ acc B' own s d, Ext B B' → J n acc B' own → acc.length ≤ n → LX acc d.2 → St s₀ B' L m (d :: own) s → Q (.ref d.1) s) :
    wpAny (model prog w) A (newList []) (fun acc s₃ => wpAny (model prog w) A (newFunctionEnv scope env.globals cl [] env.qual none .none (some env)) (fun cenv s₄ =>
      codeAny (model prog w) A (.compStart (.ListComp elt [⟨target, iter, ifs, 0⟩] scope pos) 0 (.ref I) acc { cenv with scope := relabel scope env }) (compPost (model prog w) A E none Q acc cenv.locals) s₄) E s₃) E s :=
  compCore _R W hI hfp hn hlet hcell hkind J S hs hJ turn fun C acc B' mc own s d q a b c e f g S' => finNone S' f g fun s' S'' => done acc B' own s' d a b c e S''

theorem compWU {I : Addr} {fp : List Addr} {n : Nat} {P : Nat → Value → Prop} {Sx : Nat → Heap → Prop} {oI : Obj} {elt target iter : PySem.Expr} {ifs : List PySem.Expr} {scope : Scope} {cl : List (Str × Addr)} {pos : Pos} {Q : Value → Shared → Prop} {k : Nat} {u : Value → Sem Unit}
    (_R : Room prog k A) (W : Walks prog w A I fp [I] n P Sx) (hI : ∀ i h, Sx i h → ∃ o, h.get? I = some o ∧ NT o) (hfp : ∀ b ∈ fp, b = I ∨ ∃ o, B.get? b = some o) (hn : n ≤ 500)
    (hlet : ∀ i v s Q, Sx (i + 1) s.heap → P i v → Q () s → wpAny (model prog w) A (letOwnedTupleGo target (.ref I) v) Q NoE s)
    (hcell : ∀ y ∈ scope.names, y.2 ≠ .cell) (hkind : scope.kind = .function)
    (J : Nat → List Value → Heap → List (Addr × Obj) → Prop) (S : St s₀ B L m ((I, oI) :: own) s) (hs : Sx 0 s.heap) (hJ : J 0 [] B own)
    (turn : ∀ C i v acc B' mc own s p d q, i < n → P i v → Ext B B' → J i acc B' own → acc.length ≤ i → LX acc d.2 → q.1 = L → NT p.2 → NT q.2 → St s₀ B' C mc (p :: d :: q :: own) s →
      wpAny (model prog w) A (assign target (compEnvC scope cl C env) v) (fun _ s₂ => wpAny (model prog w) A (testsOf ifs (compEnvC scope cl C env)) (fun ok s₃ =>
        if ok = true then wpAny (model prog w) A (eval elt (compEnvC scope cl C env)) (fun x s₄ => CompEnd s₀ B C p d q (J (i + 1)) (acc ++ [x]) s₄) NoE s₃
        else CompEnd s₀ B C p d q (J (i + 1)) acc s₃) NoE s₂) NoE s)
    (done : ∀ acc B' own s c d, Ext B B' → J n acc B' own → acc.length ≤ n → LX acc d.2 → St s₀ B' L m (c :: d :: own) s → wpAny (model prog w) A (u (.ref d.1)) (fun _ s'' => E3 fun B'' m' own'' => St s₀ B'' L m' (c :: own'') s'' ∧ ∀ s₃, St s₀ B'' L m' own'' s₃ → Q .none s₃) E s) :
    wpAny (model prog w) A (newList []) (fun acc s₃ => wpAny (model prog w) A (newFunctionEnv scope env.globals cl [] env.qual none .none (some env)) (fun cenv s₄ =>
      codeAny (model prog w) A (.compStart (.ListComp elt [⟨target, iter, ifs, 0⟩] scope pos) 0 (.ref I) acc { cenv with scope := relabel scope env }) (compPost (model prog w) A E (some u) Q acc cenv.locals) s₄) E s₃) E s :=
  compCore _R W hI hfp hn hlet hcell hkind J S hs hJ turn fun C acc B' mc own s d q a b c e f g S' => finUse S' f g fun c' s' S'' => done acc B' own s' c' d a b c e S''

theorem compHead {elt target iter : PySem.Expr} {ifs : List PySem.Expr} {scope : Scope} {cl : List (Str × Addr)} {pos : Pos} {Q : Value → Shared → Prop}
    (hclos : closureFor scope env = pure cl) (hkind : scope.kind = .function) (hnames : ∀ x ∈ scope.names, x.2 = .local → scope.names.lookup x.1 = some .local)
    (h : wpAny (model prog w) A (eval iter env) (fun x s₁ => wpAny (model prog w) A (pyIter x) (fun it s₂ => wpAny (model prog w) A (newList []) (fun acc s₃ => wpAny (model prog w) A (newFunctionEnv scope env.globals cl [] env.qual none .none (some env)) (fun cenv s₄ =>
      codeAny (model prog w) A (.compStart (.ListComp elt [⟨target, iter, ifs, 0⟩] scope pos) 0 it acc { cenv with scope := relabel scope env }) (compPost (model prog w) A E none Q acc cenv.locals) s₄) E s₃) E s₂) E s₁) E s)
    (hs : ∀ x, foldedSetIterable iter env x = pure x := by intro _; rfl) :
    wpAny (model prog w) A (eval (.ListComp elt [⟨target, iter, ifs, 0⟩] scope pos) env) Q E s := by
  rw [eval_ListComp]
  exact wpAny_comprehension_free (use := none) rfl hs hclos hkind hnames h

theorem compList {l : Addr} {vs : List Value} {elt target iter : PySem.Expr} {ifs : List PySem.Expr} {scope : Scope} {cl : List (Str × Addr)} {pos : Pos} {Q : Value → Shared → Prop} {k : Nat}
    (R : Room prog k A) (hl : B.IsList l vs.toArray) (hn : vs.length ≤ 500)
    (hlet : ∀ I i v s Q, s.heap.IsListIter I l i → v ∈ vs → Q () s → wpAny (model prog w) A (letOwnedTupleGo target (.ref I) v) Q NoE s)
    (hcell : ∀ y ∈ scope.names, y.2 ≠ .cell) (hkind : scope.kind = .function)
    (J : Nat → List Value → Heap → List (Addr × Obj) → Prop) (S : St s₀ B L m own s) (hJ : J 0 [] B own)
    (turn : ∀ C i v acc B' mc own s p d q, vs[i]? = some v → Ext B B' → J i acc B' own → acc.length ≤ i → LX acc d.2 → q.1 = L → NT p.2 → NT q.2 → St s₀ B' C mc (p :: d :: q :: own) s →
      wpAny (model prog w) A (assign target (compEnvC scope cl C env) v) (fun _ s₂ => wpAny (model prog w) A (testsOf ifs (compEnvC scope cl C env)) (fun ok s₃ =>
        if ok = true then wpAny (model prog w) A (eval elt (compEnvC scope cl C env)) (fun x s₄ => CompEnd s₀ B C p d q (J (i + 1)) (acc ++ [x]) s₄) NoE s₃
        else CompEnd s₀ B C p d q (J (i + 1)) acc s₃) NoE s₂) NoE s)
    (done : ∀ acc B' own s d, Ext B B' → J vs.length acc B' own → acc.length ≤ vs.length → LX acc d.2 → St s₀ B' L m (d :: own) s → Q (.ref d.1) s) :
    wpAny (model prog w) A (pyIter (.ref l)) (fun it s₂ => wpAny (model prog w) A (newList []) (fun acc s₃ => wpAny (model prog w) A (newFunctionEnv scope env.globals cl [] env.qual none .none (some env)) (fun cenv s₄ =>
      codeAny (model prog w) A (.compStart (.ListComp elt [⟨target, iter, ifs, 0⟩] scope pos) 0 it acc { cenv with scope := relabel scope env }) (compPost (model prog w) A E none Q acc cenv.locals) s₄) E s₃) E s₂) E s := by
  have hl' : s.heap.IsList l vs.toArray := hl.at fun o e => S.keep l o e
  obtain ⟨ol, hol, _⟩ := id hl
  have hlt : l < s.heap.objs.size := Heap.lt_size (S.keep _ _ hol)
  refine wpAny_pyIter_list hl' ?_
  refine compW (n := vs.toArray.size) R (Walks.list R.h s.heap.objs.size l (Nat.ne_of_lt hlt) vs.toArray) (fun i h x => ?_) (fun b hb => ?_) (by simpa using hn) (fun i v s Q h hv hq => hlet _ _ _ _ _ h.1 (by simpa using Array.mem_of_getElem? hv) hq) hcell hkind J
    (S.push (t := s.toks) { cls := .type "list_iterator", data := .fields #[.ref l, .int 0 0] }) ⟨⟨_, Heap.get?_push_size _ rfl, rfl, rfl⟩, hl'.push _⟩ hJ (fun C i v acc B' mc own s p d q hi hv => turn C i v acc B' mc own s p d q (by simpa using hv)) (fun acc B' own s d a b c => done acc B' own s d a (by simpa using b) (by simpa using c))
  · obtain ⟨⟨o, ho, _, hd⟩, _⟩ := x
    exact ⟨o, ho, NT.fields hd⟩
  · rcases List.mem_cons.mp hb with rfl | hb
    · exact .inl rfl
    · exact .inr ⟨ol, by rw [List.mem_singleton.mp hb]; exact hol⟩

theorem compListU {l : Addr} {vs : List Value} {elt target iter : PySem.Expr} {ifs : List PySem.Expr} {scope : Scope} {cl : List (Str × Addr)} {pos : Pos} {Q : Value → Shared → Prop} {k : Nat} {u : Value → Sem Unit}
    (R : Room prog k A) (hl : B.IsList l vs.toArray) (hn : vs.length ≤ 500)
    (hlet : ∀ I i v s Q, s.heap.IsListIter I l i → v ∈ vs → Q () s → wpAny (model prog w) A (letOwnedTupleGo target (.ref I) v) Q NoE s)
    (hcell : ∀ y ∈ scope.names, y.2 ≠ .cell) (hkind : scope.kind = .function)
    (J : Nat → List Value → Heap → List (Addr × Obj) → Prop) (S : St s₀ B L m own s) (hJ : J 0 [] B own)
    (turn : ∀ C i v acc B' mc own s p d q, vs[i]? = some v → Ext B B' → J i acc B' own → acc.length ≤ i → LX acc d.2 → q.1 = L → NT p.2 → NT q.2 → St s₀ B' C mc (p :: d :: q :: own) s →
      wpAny (model prog w) A (assign target (compEnvC scope cl C env) v) (fun _ s₂ => wpAny (model prog w) A (testsOf ifs (compEnvC scope cl C env)) (fun ok s₃ =>
        if ok = true then wpAny (model prog w) A (eval elt (compEnvC scope cl C env)) (fun x s₄ => CompEnd s₀ B C p d q (J (i + 1)) (acc ++ [x]) s₄) NoE s₃
        else CompEnd s₀ B C p d q (J (i + 1)) acc s₃) NoE s₂) NoE s)
    (done : ∀ acc B' own s c d, Ext B B' → J vs.length acc B' own → acc.length ≤ vs.length → LX acc d.2 → St s₀ B' L m (c :: d :: own) s → wpAny (model prog w) A (u (.ref d.1)) (fun _ s'' => E3 fun B'' m' own'' => St s₀ B'' L m' (c :: own'') s'' ∧ ∀ s₃, St s₀ B'' L m' own'' s₃ → Q .none s₃) E s) :
    wpAny (model prog w) A (pyIter (.ref l)) (fun it s₂ => wpAny (model prog w) A (newList []) (fun acc s₃ => wpAny (model prog w) A (newFunctionEnv scope env.globals cl [] env.qual none .none (some env)) (fun cenv s₄ =>
      codeAny (model prog w) A (.compStart (.ListComp elt [⟨target, iter, ifs, 0⟩] scope pos) 0 it acc { cenv with scope := relabel scope env }) (compPost (model prog w) A E (some u) Q acc cenv.locals) s₄) E s₃) E s₂) E s := by
  have hl' : s.heap.IsList l vs.toArray := hl.at fun o e => S.keep l o e
  obtain ⟨ol, hol, _⟩ := id hl
  have hlt : l < s.heap.objs.size := Heap.lt_size (S.keep _ _ hol)
  refine wpAny_pyIter_list hl' ?_
  refine compWU (n := vs.toArray.size) R (Walks.list R.h s.heap.objs.size l (Nat.ne_of_lt hlt) vs.toArray) (fun i h x => ?_) (fun b hb => ?_) (by simpa using hn) (fun i v s Q h hv hq => hlet _ _ _ _ _ h.1 (by simpa using Array.mem_of_getElem? hv) hq) hcell hkind J
    (S.push (t := s.toks) { cls := .type "list_iterator", data := .fields #[.ref l, .int 0 0] }) ⟨⟨_, Heap.get?_push_size _ rfl, rfl, rfl⟩, hl'.push _⟩ hJ (fun C i v acc B' mc own s p d q hi hv => turn C i v acc B' mc own s p d q (by simpa using hv)) (fun acc B' own s c' d a b c => done acc B' own s c' d a (by simpa using b) (by simpa using c))
  · obtain ⟨⟨o, ho, _, hd⟩, _⟩ := x
    exact ⟨o, ho, NT.fields hd⟩
  · rcases List.mem_cons.mp hb with rfl | hb
    · exact .inl rfl
    · exact .inr ⟨ol, by rw [List.mem_singleton.mp hb]; exact hol⟩

theorem compTupU {l : Addr} {vs : List Value} {elt target iter : PySem.Expr} {ifs : List PySem.Expr} {scope : Scope} {cl : List (Str × Addr)} {pos : Pos} {Q : Value → Shared → Prop} {k : Nat} {u : Value → Sem Unit}
    (R : Room prog k A) (hl : IsTup B l vs.toArray) (hn : vs.length ≤ 500)
    (hlet : ∀ I i v s Q, s.heap.IsTupleIter I l i → v ∈ vs → Q () s → wpAny (model prog w) A (letOwnedTupleGo target (.ref I) v) Q NoE s)
    (hcell : ∀ y ∈ scope.names, y.2 ≠ .cell) (hkind : scope.kind = .function)
    (J : Nat → List Value → Heap → List (Addr × Obj) → Prop) (S : St s₀ B L m own s) (hJ : J 0 [] B own)
    (turn : ∀ C i v acc B' mc own s p d q, vs[i]? = some v → Ext B B' → J i acc B' own → acc.length ≤ i → LX acc d.2 → q.1 = L → NT p.2 → NT q.2 → St s₀ B' C mc (p :: d :: q :: own) s →
      wpAny (model prog w) A (assign target (compEnvC scope cl C env) v) (fun _ s₂ => wpAny (model prog w) A (testsOf ifs (compEnvC scope cl C env)) (fun ok s₃ =>
        if ok = true then wpAny (model prog w) A (eval elt (compEnvC scope cl C env)) (fun x s₄ => CompEnd s₀ B C p d q (J (i + 1)) (acc ++ [x]) s₄) NoE s₃
        else CompEnd s₀ B C p d q (J (i + 1)) acc s₃) NoE s₂) NoE s)
    (done : ∀ acc B' own s c d, Ext B B' → J vs.length acc B' own → acc.length ≤ vs.length → LX acc d.2 → St s₀ B' L m (c :: d :: own) s → wpAny (model prog w) A (u (.ref d.1)) (fun _ s'' => E3 fun B'' m' own'' => St s₀ B'' L m' (c :: own'') s'' ∧ ∀ s₃, St s₀ B'' L m' own'' s₃ → Q .none s₃) E s) :
    wpAny (model prog w) A (pyIter (.ref l)) (fun it s₂ => wpAny (model prog w) A (newList []) (fun acc s₃ => wpAny (model prog w) A (newFunctionEnv scope env.globals cl [] env.qual none .none (some env)) (fun cenv s₄ =>
      codeAny (model prog w) A (.compStart (.ListComp elt [⟨target, iter, ifs, 0⟩] scope pos) 0 it acc { cenv with scope := relabel scope env }) (compPost (model prog w) A E (some u) Q acc cenv.locals) s₄) E s₃) E s₂) E s := by
  have hl' : s.heap.IsTuple l vs.toArray := IsTup.keeps hl S.keep
  obtain ⟨ol, hol, _⟩ := id hl
  have hlt : l < s.heap.objs.size := Heap.lt_size (S.keep _ _ hol)
  refine wpAny_pyIter_tuple hl' ?_
  refine compWU (n := vs.toArray.size) R (Walks.tuple R.h s.heap.objs.size l (Nat.ne_of_lt hlt) vs.toArray) (fun i h x => ?_) (fun b hb => ?_) (by simpa using hn) (fun i v s Q h hv hq => hlet _ _ _ _ _ h.1 (by simpa using Array.mem_of_getElem? hv) hq) hcell hkind J
    (S.push (t := s.toks) { cls := .type "tuple_iterator", data := .fields #[.ref l, .int 0 0] }) ⟨⟨_, Heap.get?_push_size _ rfl, rfl, rfl⟩, hl'.push _⟩ hJ (fun C i v acc B' mc own s p d q hi hv => turn C i v acc B' mc own s p d q (by simpa using hv)) (fun acc B' own s c' d a b c => done acc B' own s c' d a (by simpa using b) (by simpa using c))
  · obtain ⟨⟨o, ho, _, hd⟩, _⟩ := x
    exact ⟨o, ho, NT.fields hd⟩
  · rcases List.mem_cons.mp hb with rfl | hb
    · exact .inl rfl
    · exact .inr ⟨ol, by rw [List.mem_singleton.mp hb]; exact hol⟩
theorem compAssign {elt target iter : PySem.Expr} {ifs : List PySem.Expr} {scope : Scope} {cl : List (Str × Addr)} {pos spos py : Pos} {y : Str} {Q : Flow → Shared → Prop}
    (hsw : swapsWith (.ListComp elt [⟨target, iter, ifs, 0⟩] scope pos) (some (.Name y py)) spos.line env = pure true)
    (hclos : closureFor scope env = pure cl) (hkind : scope.kind = .function) (hnames : ∀ x ∈ scope.names, x.2 = .local → scope.names.lookup x.1 = some .local)
    (h : wpAny (model prog w) A (eval iter env) (fun x s₁ => wpAny (model prog w) A (pyIter x) (fun it s₂ => wpAny (model prog w) A (newList []) (fun acc s₃ => wpAny (model prog w) A (newFunctionEnv scope env.globals cl [] env.qual none .none (some env)) (fun cenv s₄ =>
      codeAny (model prog w) A (.compStart (.ListComp elt [⟨target, iter, ifs, 0⟩] scope pos) 0 it acc { cenv with scope := relabel scope env }) (compPost (model prog w) A E (some (assign (.Name y py) env)) (fun _ s' => Q .next s') acc cenv.locals) s₄) E s₃) E s₂) E s₁) E s)
    (hs : ∀ x, foldedSetIterable iter env x = pure x := by intro _; rfl) :
    wpAny (model prog w) A (exec (.Assign [.Name y py] (.ListComp elt [⟨target, iter, ifs, 0⟩] scope pos) spos) env) Q E s := by
  rw [exec_Assign_Name_used _ _ _ _ hsw]
  refine wpAny_bind (wpAny_standAt (wpAny_bind ?_))
  show wpAny _ A (do let _ ← comprehension (.ListComp elt [⟨target, iter, ifs, 0⟩] scope pos) scope env _ (newList []) false (eval iter env) (some (assign (.Name y py) env))) _ _ s
  exact wpAny_bind (wpAny_mono (wpAny_comprehension_free (use := some (assign (.Name y py) env)) (Q := fun _ s' => Q .next s') rfl hs hclos hkind hnames h) (fun _ s' hq => wpAny_pure (wpAny_pure hq)) fun _ _ e => e)

end
end Mine
end
section
namespace Mine
section
variable {prog : Program} {w : World} {A : Around} {E : Value → Shared → Prop} {s s₀ : Shared} {B B₀ : Heap} {L : Addr} {m : Str → Option Value} {own : List (Addr × Obj)} {env : Env}

theorem gmApp {l : Addr} {o : Obj} {f : Obj → List (Addr × Obj)} {vs : List Value} {pl : Sem Bool} {Q : Value × List Value → Shared → Prop} (S : St s₀ B L m own s) (hf : At l o own f) (hl : LX vs o)
    (h : Q (.builtin "list.append", [.ref l]) s) : wpAny (model prog w) A (getMethod (.ref l) "append" pl) Q E s := by
  obtain ⟨n, rfl⟩ := hl
  exact getMethod_list_append (S.at hf).1 rfl rfl h

theorem exprS {e : PySem.Expr} {pos : Pos} {Q : Flow → Shared → Prop} (h : wpAny (model prog w) A (eval e env) (fun _ => Q .next) E s)
    (hi : interactive env = false := by rfl) (hs : swapsWith e none pos.line env = pure false := by rfl) : wpAny (model prog w) A (exec (.Expr e pos) env) Q E s := wpAny_Expr_any h hi hs

theorem argN {x : Str} {p pos : Pos} {v : Value} {rest : List PySem.Expr} {Q : List Value → Shared → Prop} (S : St s₀ B L m own s) (hv : m x = some v)
    (h : wpAny (model prog w) A (spliced (backTo pos (starEach rest env))) (fun vs s₂ => Q (v :: vs) s₂) E s)
    (hL : env.locals = L := by rfl) (hk : env.scope.kind = .function := by rfl) (hl : env.kindOf x = some .local := by rfl) (hd : (x == ("__debug__" : Str)) = false := by decide) :
    wpAny (model prog w) A (spliced (backTo pos (starEach (.Name x p :: rest) env))) Q E s := args_cons (nm S hv h hL hk hl hd) rfl
theorem argS {x : Str} {k : Nat} {p pos : Pos} {rest : List PySem.Expr} {Q : List Value → Shared → Prop} (S : St s₀ B L m own s)
    (h : ∀ s' t, St s₀ B L m own s' → wpAny (model prog w) A (spliced (backTo pos (starEach rest env))) (fun vs s₂ => Q (.str x t :: vs) s₂) E s') :
    wpAny (model prog w) A (spliced (backTo pos (starEach (.Constant (.str x) k p :: rest) env))) Q E s := args_cons (kstr S h) rfl
theorem argI {i : Int} {k : Nat} {p pos : Pos} {rest : List PySem.Expr} {Q : List Value → Shared → Prop} (S : St s₀ B L m own s)
    (h : ∀ s' t, St s₀ B L m own s' → wpAny (model prog w) A (spliced (backTo pos (starEach rest env))) (fun vs s₂ => Q (.int i t :: vs) s₂) E s') :
    wpAny (model prog w) A (spliced (backTo pos (starEach (.Constant (.int i) k p :: rest) env))) Q E s := args_cons (kint S h) rfl
theorem args_one {e : PySem.Expr} {pos : Pos} {Q : List Value → Shared → Prop} (h : wpAny (model prog w) A (eval e env) (fun v s₁ => Q [v] s₁) E s)
    (he : starEach [e] env = (false, eval e env) :: starEach [] env := by rfl) : wpAny (model prog w) A (spliced (backTo pos (starEach [e] env))) Q E s := args_cons (wpAny_mono h (fun _ _ q => args_nil q) fun _ _ e => e) he
theorem argN1 {x : Str} {p pos : Pos} {v : Value} {Q : List Value → Shared → Prop} (S : St s₀ B L m own s) (hv : m x = some v) (h : Q [v] s)
    (hL : env.locals = L := by rfl) (hk : env.scope.kind = .function := by rfl) (hl : env.kindOf x = some .local := by rfl) (hd : (x == ("__debug__" : Str)) = false := by decide) :
    wpAny (model prog w) A (spliced (backTo pos (starEach [.Name x p] env))) Q E s := argN S hv (args_nil h) hL hk hl hd
theorem argS1 {x : Str} {k : Nat} {p pos : Pos} {Q : List Value → Shared → Prop} (S : St s₀ B L m own s) (h : ∀ s' t, St s₀ B L m own s' → Q [.str x t] s') :
    wpAny (model prog w) A (spliced (backTo pos (starEach [.Constant (.str x) k p] env))) Q E s := argS S fun s' t S' => args_nil (h s' t S')
theorem argI1 {i : Int} {k : Nat} {p pos : Pos} {Q : List Value → Shared → Prop} (S : St s₀ B L m own s) (h : ∀ s' t, St s₀ B L m own s' → Q [.int i t] s') :
    wpAny (model prog w) A (spliced (backTo pos (starEach [.Constant (.int i) k p] env))) Q E s := argI S fun s' t S' => args_nil (h s' t S')
theorem tupI {x : Str} {p p₂ pos : Pos} {k : Int} {n : Nat} {t : Addr} {l : List Value} {y : Value} {Q : Value → Shared → Prop} (S : St s₀ B L m own s) (hv : m x = some (.ref t)) (ht : IsTup B t l.toArray) (h0 : 0 ≤ k ∧ k < 1000)
    (hy : l[k.toNat]? = some y) (h : ∀ s', St s₀ B L m own s' → Q y s')
    (hL : env.locals = L := by rfl) (hk : env.scope.kind = .function := by rfl) (hl : env.kindOf x = some .local := by rfl) (hd : (x == ("__debug__" : Str)) = false := by decide) :
    wpAny (model prog w) A (eval (.Subscript (.Name x p) (.Constant (.int k) n p₂) pos) env) Q E s :=
  Subscript_ (nm S hv (kint S fun s' _ S' => titem (IsTup.keeps ht S'.keep) h0.1 h0.2 hy (h s' S') subsC) hL hk hl hd)
inductive SwapD (prog : Program) (w : World) (A : Around) (E : Value → Shared → Prop) (env : Env) (names : List Str) (Q : Flow → Shared → Prop) : Value → Shared → Prop where
  | mk {t : Addr} {o : Obj} {vs : List Value} {n : Nat} {s₁ s₀ : Shared} {B : Heap} {L : Addr} {m : Str → Option Value} {own : List (Addr × Obj)} (ht : s₁.heap.get? t = some o) (hc : o.cls = .type "tuple") (hd : o.data = .seq vs.toArray n) (hn : vs.length = names.length) (S : St s₀ B L m own s₁)
    (h : ∀ s₂, St s₀ B L m own s₂ → wpAny (model prog w) A (assignInOrder (names.reverse.map fun n => bindName env n) vs.reverse) (fun _ => Q .next) E s₂) : SwapD prog w A E env names Q (.ref t) s₁
theorem exSwap {elts : List PySem.Expr} {k : Nat} {tpos pos : Pos} {value : PySem.Expr} {names : List Str} {Q : Flow → Shared → Prop} {j : Nat} (R : Room prog j A)
    (h : wpAny (model prog w) A (eval value env) (SwapD prog w A E env names Q) E s)
    (hs : swapsWithSole [.Tuple elts k tpos] value pos.line env = pure false) (hw : swappedStores [.Tuple elts k tpos] value env = pure (some names)) :
    wpAny (model prog w) A (exec (.Assign [.Tuple elts k tpos] value pos) env) Q E s := by
  refine Assign_Tuple_swapped (wpAny_mono h (fun v s₁ h₁ => ?_) fun _ _ e => e) hs hw
  obtain ⟨ht, hc, hd, hn, S, hq⟩ := h₁
  rename_i vs _ _ _ _ _ _
  have e : names.length = vs.toArray.size := by simp [hn]
  rw [e]
  exact wpAny_unpackItems_tuple R.h ⟨_, ht, hc, _, hd⟩ fun h' he => hq { s₁ with heap := h' } (S.grow (t := s₁.toks) fun b o e => he b o (Nat.ne_of_lt (Heap.lt_size e)) e)
theorem bindS {x : Str} {v : Value} {ts : List (Value → Sem Unit)} {vs : List Value} {Q : Unit → Shared → Prop} (S : St s₀ B L m own s)
    (h : ∀ s', St s₀ B L (put x v m) own s' → wpAny (model prog w) A (assignInOrder ts vs) Q E s')
    (hL : env.locals = L := by rfl) (hk : env.scope.kind = .function := by rfl) (hl : env.kindOf x = some .local := by rfl) :
    wpAny (model prog w) A (assignInOrder ((fun v => bindName env x v) :: ts) (v :: vs)) Q E s :=
  wpAny_assignInOrder_more (wpAny_bindName (sto S h hL hk hl))

theorem sitem {value slice : PySem.Expr} {x : Str} {t u : Tok} {i : Int} {c : Nat} {Q : Value → Shared → Prop} (S : St s₀ B L m own s) (h0 : 0 ≤ i) (h1 : i < x.length) (hb : x.length ≤ 1000) (hc : x.cps[i.toNat]? = some c)
    (h : ∀ s' t, St s₀ B L m own s' → Q (.str ⟨#[c]⟩ t) s')
    (hs : subscripted slice false (.str x t) (.int i u) = operate [.str x t, .int i u] (getItem (.str x t) (.int i u))) (ht : ∀ r, letTemporaryGo value (.str x t) r = pure () := by intro _; with_unfolding_all rfl) :
    wpAny (model prog w) A (subscriptTail value slice (.str x t) (.int i u)) Q E s :=
  tail_of_ItemOn ⟨"str", _, PySem.F.slot_str_getitem.lookup, typeIs_str _ _ _, getItem_str (Bool.or_eq_false_iff.mpr ⟨decide_eq_false (Int.not_lt.mpr (Int.le_trans (by decide) h0)), decide_eq_false (Int.not_le.mpr (Int.lt_of_lt_of_le h1 (Int.le_trans (Int.ofNat_le.mpr hb) (by decide))))⟩) (by rw [seqIndex_of h0 h1]; exact hc) (h _ _ (S.tok _))⟩ hs ht
theorem keptExt (h : Heap) : KeptH (Ext h) := fun h' o e => e.trans (Gro.push h' o)
theorem sslice {value slice : PySem.Expr} {x : Str} {t ui uj : Tok} {i j : Int} {a : Addr} {Q : Value → Shared → Prop} {s₁ : Shared} (S : St s₀ B L m own s) (hb : x.length ≤ 1000)
    (e : s₁ = { s with heap := s.heap.push { cls := .type "slice", data := .fields #[.int i ui, .int j uj, .none] } }) (ha : a = s.heap.objs.size)
    (h : ∀ s' t, St s₀ B L m own s' → Q (.str (Txt.slice x (some i) (some j)) t) s')
    (hs : ∀ a, subscripted slice false (.str x t) (.ref a) = operate [.ref a, .str x t] (getItem (.str x t) (.ref a))) (ht : ∀ r, letTemporaryGo value (.str x t) r = pure () := by intro _; with_unfolding_all rfl) :
    wpAny (model prog w) A (subscriptTail value slice (.str x t) (.ref a)) Q E s₁ := by
  subst e ha
  exact tail_of_ItemOn (SBH.sliceItem_ss (keptExt s.heap) (Ext.refl _) (fun h' t' k he => h { s with heap := h', toks := k } t' (S.grow he)) (Nat.le_trans hb (by decide))) (hs _) ht
theorem subsS {l u : PySem.Expr} {p : Pos} {x : Str} {t : Tok} (a : Addr) : subscripted (.Slice (some l) (some u) none p) false (.str x t) (.ref a) = operate [.ref a, .str x t] (getItem (.str x t) (.ref a)) := by with_unfolding_all rfl
theorem sjoin {x : Str} {t : Tok} {D : Addr} {vs : List Value} {ys : List Str} {Q : Value → Shared → Prop} (S : St s₀ B L m own s) (hl : s.heap.IsList D vs.toArray) (hy : StrsAre vs ys) (hx : x.length ≤ 64) (hb : (ys.map (·.length)).sum + ys.length * 64 ≤ 16777216)
    (h : ∀ s' t, St s₀ B L m own s' → Q (.str (Txt.join x ys) t) s') : wpAny (model prog w) A (call (.builtin "str.join") [.str x t, .ref D]) Q E s :=
  join_listC hl (by simpa using hy) hx hb fun t' k => h _ t' (S.tok k)
theorem St.notL {vs : List Value} {a : Addr} (S : St s₀ B L m own s) (h : s.heap.IsList a vs.toArray) : a ≠ L := by
  rintro rfl
  obtain ⟨o, ho, _, n, hd⟩ := h
  obtain ⟨o', es, ep, ho', hd', _⟩ := S.ns
  rw [ho] at ho'; cases ho'
  rw [hd] at hd'; cases hd'
theorem ssplit {x y : Str} {t u : Tok} {Q : Value → Shared → Prop} (S : St s₀ B L m [] s) (hy : (y.length == 0) = false) (hx : x.length ≤ 1000) (hz : (Builtin.Str.partsBetween x (Builtin.Str.occurrences x y 0 x.length (x.length + 1)) y.length).length ≤ 1000)
    (h : ∀ s' B' a vs, StrsAre vs (Txt.split x y) → Ext B B' → B'.IsList a vs.toArray → St s₀ B' L m [] s' → Q (.ref a) s') : wpAny (model prog w) A (call (.builtin "str.split") [.str x t, .str y u]) Q E s := by
  refine SCH.split1 (keptExt s.heap) (Ext.refl _) hy (fun D l h' k hl he hL => ?_) (Nat.le_trans hx (by decide)) (Nat.le_trans hz (by decide))
  have S' : St s₀ B L m [] { s with heap := h', toks := k } := S.grow he
  obtain ⟨B', hB, S₂, hin⟩ := S'.rebase (List.Sublist.refl _)
  obtain ⟨o, ho, r⟩ := id hL
  exact h { s with heap := h', toks := k } B' D (strValues l) (by rw [← hl]; exact strsAre_of_values l) hB ⟨o, hin D o ho (S'.notL hL) (by simp), r⟩ S₂
theorem strsSnoc {vs : List Value} {ys : List Str} {y : Str} {t : Tok} (h : StrsAre vs ys) : StrsAre (vs ++ [.str y t]) (ys ++ [y]) := by
  induction h with
  | nil => exact .cons y t .nil
  | cons a u _ ih => exact .cons a u ih
theorem tests0 {Q : Bool → Shared → Prop} (h : Q true s) : wpAny (model prog w) A (testsOf [] env) Q E s := wpAny_pure h
theorem tests1 {c : PySem.Expr} {Q : Bool → Shared → Prop} (h : wpAny (model prog w) A (isTrue c env (eval c env)) Q E s) : wpAny (model prog w) A (testsOf [c] env) Q E s := by
  show wpAny _ A (do let r ← (do let ok ← isTrue c env (eval c env); pure (ForInStep.yield ok)); _) _ _ _
  refine wpAny_bind (wpAny_bind (wpAny_mono h (fun ok s₁ h₁ => wpAny_pure ?_) fun _ _ e => e))
  exact wpAny_pure h₁
theorem CompEnd.mk {s₀ : Shared} {B₀ : Heap} {C : Addr} {p d q : Addr × Obj} {J : List Value → Heap → List (Addr × Obj) → Prop} {acc : List Value} {mc : Str → Option Value} (S : St s₀ B C mc (p :: d :: q :: own) s) (hB : Ext B₀ B) (hJ : J acc B own) : CompEnd s₀ B₀ C p d q J acc s := ⟨B, mc, own, hB, hJ, S⟩
theorem strsLen {vs : List Value} {ys : List Str} (h : StrsAre vs ys) : vs.length = ys.length := by
  induction h with
  | nil => rfl
  | cons a u _ ih => simp [ih]
theorem strsGet {vs : List Value} {ys : List Str} (h : StrsAre vs ys) : ∀ {i : Nat} {v : Value}, vs[i]? = some v → E2 fun y t => v = .str y t ∧ ys[i]? = some y := by
  induction h with
  | nil => intro i v e; simp at e
  | cons a u _ ih =>
    intro i v e
    cases i with
    | zero => simp at e; exact ⟨a, u, e.symm, by simp⟩
    | succ i => simp at e; obtain ⟨y, t, a, b⟩ := ih e; exact ⟨y, t, a, by simpa using b⟩

theorem kstrT {x : Str} {k : Nat} {pos : Pos} {Q : Value → Shared → Prop} (S : St s₀ B L m own s) (h : ∀ s', St s₀ B L m own s' → s'.toks = s.toks + 1 → Q (.str x s.toks) s') : wpAny (model prog w) A (eval (.Constant (.str x) k pos) env) Q E s :=
  Calls.Constant_str (h _ (S.tok _) rfl)
theorem srepl {x y z : Str} {t u v : Tok} {Q : Value → Shared → Prop} (S : St s₀ B L m own s) (hu : 0 < u) (hv : u < v) (hyz : (y == z) = false) (hx : x.length ≤ 1000) (hz : z.length ≤ 14)
    (h : ∀ s' t', St s₀ B L m own s' → s.toks ≤ s'.toks → Q (.str (Txt.replace x y z) t') s') : wpAny (model prog w) A (call (.builtin "str.replace") [.str x t, .str y u, .str z v]) Q E s := by
  have e : (2 : Nat) ^ 24 = 16777216 := by decide
  have hu' : u ≠ 0 := Nat.ne_of_gt hu
  have hv' : v ≠ 0 := Nat.ne_of_gt (Nat.lt_trans hu hv)
  have huv : u ≠ v := Nat.ne_of_lt hv
  have hb : x.length + (x.length + 1) * z.length ≤ 16777216 := by
    have h0 : (x.length + 1) * z.length ≤ (x.length + 1) * 14 := Nat.mul_le_mul_left _ hz
    exact Nat.le_trans (Nat.add_le_add hx (Nat.le_trans h0 (Nat.mul_le_mul_right 14 (Nat.succ_le_succ hx)))) (by decide)
  have hl : Builtin.Str.tooLong (x.length + (Builtin.Str.occurrences x y 0 x.length (x.length + 1)).length * z.length) = false := by
    have h1 := StrLaws.occ_length_le x y 0 x.length (x.length + 1)
    have h2 : (Builtin.Str.occurrences x y 0 x.length (x.length + 1)).length * z.length ≤ (x.length + 1) * z.length := Nat.mul_le_mul_right _ h1
    unfold Builtin.Str.tooLong sizeLine
    exact decide_eq_false (Nat.not_lt.mpr (Nat.le_trans (Nat.add_le_add_left h2 _) hb))
  refine call_gives PySem.F.slot_str_replace (typeIs_str _ _ _) PySem.F.entry_str_replace (PySem.F.args_str_replace_3 _ _ _)
    (gives_str_replace x y z t u v fun _ => ⟨by simp [hu', hv'], by simp [huv], hyz, hl⟩) ?_
  have hq := h
  unfold Txt.replace at hq
  cases hc : ((Builtin.Str.occurrences x y 0 x.length (x.length + 1)).isEmpty || (y.length == 0 && z.length == 0))
  · rw [hc] at hq
    simp only [Bool.false_eq_true, if_false] at hq ⊢
    exact ⟨fits_replaced y hb, hq _ _ (S.tok _) (by simp)⟩
  · rw [hc] at hq
    simp only [if_true] at hq ⊢
    exact hq s t S (Nat.le_refl _)

end
end Mine
end
section
namespace Mine
section
variable {prog : Program} {w : World} {A : Around} {E : Value → Shared → Prop} {s s₀ : Shared} {B B₀ : Heap} {L : Addr} {m : Str → Option Value} {own : List (Addr × Obj)} {env : Env}
theorem imax {k : Nat} {a b : Int} {t u : Tok} {Q : Value → Shared → Prop} (R : Room prog k A) (S : St s₀ B L m own s)
    (h : ∀ s' r t, (r = a ∨ r = b) → a ≤ r → b ≤ r → St s₀ B L m own s' → Q (.int r t) s') : wpAny (model prog w) A (call (.builtin "max") [.int a t, .int b u]) Q E s := by
  refine max_two_ints R.h fun h' tk he => ?_
  have S' : St s₀ B L m own { s with heap := h', toks := tk } := S.grow he
  by_cases hb : b > a
  · rw [if_pos hb]; exact h _ _ _ (.inr rfl) (Int.le_of_lt hb) (Int.le_refl _) S'
  · rw [if_neg hb]; exact h _ _ _ (.inl rfl) (Int.le_refl _) (Int.not_lt.mp hb) S'
theorem imin {k : Nat} {a b : Int} {t u : Tok} {Q : Value → Shared → Prop} (R : Room prog k A) (S : St s₀ B L m own s)
    (h : ∀ s' r t, (r = a ∨ r = b) → r ≤ a → r ≤ b → St s₀ B L m own s' → Q (.int r t) s') : wpAny (model prog w) A (call (.builtin "min") [.int a t, .int b u]) Q E s := by
  refine min_two_ints R.h fun h' tk he => ?_
  have S' : St s₀ B L m own { s with heap := h', toks := tk } := S.grow he
  by_cases hb : b < a
  · rw [if_pos hb]; exact h _ _ _ (.inr rfl) (Int.le_of_lt hb) (Int.le_refl _) S'
  · rw [if_neg hb]; exact h _ _ _ (.inl rfl) (Int.le_refl _) (Int.not_lt.mp hb) S'
theorem ipow {a n : Int} {t u : Tok} {Q : Value → Shared → Prop} (S : St s₀ B L m own s) (hn : 0 ≤ n) (hn2 : n ≤ 1000000) (ha : a.natAbs < 2 ^ 64) (h : ∀ s' t, St s₀ B L m own s' → Q (.int (a ^ n.toNat) t) s') : wpAny (model prog w) A (binaryOp .Pow (.int a t) (.int n u)) Q E s :=
  pow_int_small hn hn2 ha (h _ _ (S.tok _))
theorem ineg {a : Int} {t : Tok} {Q : Value → Shared → Prop} (S : St s₀ B L m own s) (h : ∀ s' t, St s₀ B L m own s' → Q (.int (-a) t) s') : wpAny (model prog w) A (unaryOp .USub (.int a t)) Q E s := PyProof.Rows.neg_int (h _ _ (S.tok _))
theorem intsGet {vs : List Value} {ys : List Int} (h : IntsAre vs ys) : ∀ {i : Nat}, i < vs.length → E2 fun y t => vs[i]? = some (.int y t) := by
  induction h with
  | nil => intro i e; simp at e
  | cons a u _ ih =>
    intro i e
    cases i with
    | zero => exact ⟨a, u, rfl⟩
    | succ i => obtain ⟨y, t, a⟩ := ih (i := i) (by simpa using e); exact ⟨y, t, by simpa using a⟩


noncomputable def CO (v : Option Value) (o : Obj) : Prop := o.data = .cell v
theorem cnm {x : Str} {pos : Pos} {v : Value} {c : Addr} {o : Obj} {f : Obj → List (Addr × Obj)} {Q : Value → Shared → Prop} (S : St s₀ B L m own s) (hf : At c o own f) (hv : CO (some v) o) (h : Q v s)
    (hc : env.cells.lookup x = some c := by rfl) (hk : env.scope.kind = .function := by rfl) (hl : env.kindOf x = some .cell := by rfl) (hd : (x == ("__debug__" : Str)) = false := by decide) :
    wpAny (model prog w) A (eval (.Name x pos) env) Q E s := wpAny_Name (wpAny_loadName_cell hk hl hc ⟨o, (S.at hf).1, hv⟩ h) hd
theorem csto {x : Str} {v : Value} {v₀ : Option Value} {c : Addr} {o : Obj} {f : Obj → List (Addr × Obj)} {Q : Unit → Shared → Prop} (S : St s₀ B L m own s) (hf : At c o own f) (hv : CO v₀ o)
    (h : ∀ s' o', CO (some v) o' → St s₀ B L m (f o') s' → Q () s')
    (hc : env.cells.lookup x = some c := by rfl) (hk : env.scope.kind = .function := by rfl) (hl : env.kindOf x = some .cell := by rfl) : wpAny (model prog w) A (storeName env x v) Q E s := by
  refine wpAny_storeName_cell hk hl hc ⟨o, (S.at hf).1, hv⟩ fun h' hc' hs => ?_
  obtain ⟨o', ho', hd'⟩ := hc'
  exact h _ o' hd' (S.turnAt (t := s.toks) hf ho' hs)

inductive CellsAre (h : Heap) (cm : Str → Option Value) : List (Str × Addr) → List (Addr × Obj) → Prop
  | nil : CellsAre h cm [] []
  | cons {x c o cs os} : h.get? c = some o → CO (cm x) o → CellsAre h cm cs os → CellsAre h cm ((x, c) :: cs) ((c, o) :: os)
theorem cellsAre {h : Heap} {cm : Str → Option Value} : ∀ {cs : List (Str × Addr)}, (∀ n c, (n, c) ∈ cs → h.IsCell c (cm n)) → ∃ os, CellsAre h cm cs os
  | [], _ => ⟨[], .nil⟩
  | (x, c) :: cs, hh => by
    obtain ⟨o, ho, hd⟩ := hh x c (by simp)
    obtain ⟨os, hos⟩ := cellsAre (cs := cs) fun n c hm => hh n c (by simp [hm])
    exact ⟨_, .cons ho hd hos⟩
theorem CellsAre.keys {h : Heap} {cm : Str → Option Value} {cs : List (Str × Addr)} {os : List (Addr × Obj)} (x : CellsAre h cm cs os) : os.map (·.1) = cs.map (·.2) ∧ ∀ p ∈ os, h.get? p.1 = some p.2 := by
  induction x with
  | nil => exact ⟨rfl, by simp⟩
  | cons ho hd _ ih => exact ⟨by simp [ih.1], fun p hp => by rcases List.mem_cons.mp hp with rfl | hp; exact ho; exact ih.2 p hp⟩

theorem lookup_none_mem {cs : List (Str × Addr)} {n : Str} {c : Addr} (hm : (n, c) ∈ cs) (ap : cs.Pairwise fun x y => x.1 ≠ y.1) : cs.lookup n = some c := by
  induction cs with
  | nil => cases hm
  | cons y r ih =>
    obtain ⟨k, v⟩ := y
    rw [List.lookup_cons]
    have h2 := List.pairwise_cons.mp ap
    rcases List.mem_cons.mp hm with e | hm
    · cases e; simp
    · have : (n == k) = false := by
        have := h2.1 _ hm
        simpa using fun e : n = k => this e.symm
      rw [this]; exact ih hm h2.2

theorem enterC {k : Nat} {X : List Addr} {own : List (Addr × Obj)} {name qual : Str} {params : Arguments} {body : List Stmt} {scope : Scope} {dV kV doc pm cdv ct oc : Value} {an od : Option Addr} {osl : Array (Option Value)} {f : Addr} {vals : List Value} {binds : List (Str × Value)} {Q : Value → Shared → Prop}
    (R : Room prog (k + 1) A) (G' : Gl w (frees s.heap X)) (hX : own.map (·.1) = X) (hown : ∀ p ∈ own, s.heap.get? p.1 = some p.2) (hnd : (own.map (·.1)).Nodup)
    (ho : (hd.heap_39 w.params).lookup f = some ⟨oc, od, .func (fnOf name qual params body scope dV kV doc pm an cdv ct), osl⟩) (hcd : codeIn (hd.heap_39 w.params) cdv qual = true)
    (hbind : bindArgs (fnOf name qual params body scope dV kV doc pm an cdv ct) ⟨vals, []⟩ = pure binds)
    (hkind : ∀ n, ∀ x ∈ binds, scope.names.lookup x.1 = some .local ∨ (scope.names.lookup x.1 = some .cell ∧ ((cellsFrom n scope.names []).lookup x.1).isSome = true))
    (hdis : ∀ n, (cellsFrom n scope.names []).Pairwise fun x y => x.1 ≠ y.1)
    (hco : scope.isCoroutine = false) (hgen : scope.isGenerator = false) (hk : scope.kind = .function)
    (h : ∀ L A' s' cs, Room prog k A' → CellsAre s'.heap (bindC (envOfC qual scope L f cdv).kindOf binds fun _ => none) (cellsFrom (L + 1) scope.names []) cs →
      St s (frees s.heap X) L (bindL (envOfC qual scope L f cdv).kindOf binds fun _ => none) (cs ++ own) s' →
      wpAny (model prog w) A' (execs body (envOfC qual scope L f cdv)) (fun fl s' => match fl with | .ret v => Q v s' | _ => Q .none s') (fun _ _ => False) s') :
    wpAny (model prog w) A (call (.ref f) vals []) Q E s := by
  subst hX
  have G : Gl w s.heap := G'.ext (frees_ext _ _)
  refine wpAny_call (codeAny_call_cells (fd := fnOf name qual params body scope dV kV doc pm an cdv ct) (body := body) (vals := vals) (binds := binds) (R.dlt (x := 0) (by decide)) (G.K _ _ ho) rfl G.lim (codeRec_of G.K hcd) rfl hbind rfl (hkind _) (fun s₁ x => ?_) hco hgen hk)
  have x' : InCallC s s.heap.objs.size (bindL (envOfC qual scope s.heap.objs.size f cdv).kindOf binds fun _ => none) (cellsFrom (s.heap.objs.size + 1) scope.names []) (bindC (envOfC qual scope s.heap.objs.size f cdv).kindOf binds fun _ => none) s₁ := x
  obtain ⟨cs, hcs⟩ := cellsAre (h := s₁.heap) (cm := bindC (envOfC qual scope s.heap.objs.size f cdv).kindOf binds fun _ => none) (cs := cellsFrom (s.heap.objs.size + 1) scope.names []) fun n c hm => x'.cell n c (lookup_none_mem hm (hdis _))
  obtain ⟨h', tk, rfl⟩ := x'.toInCall.same
  have above : ∀ p ∈ cs, s.heap.objs.size < p.1 := fun p hp => by
    have : p.1 ∈ cs.map (·.1) := List.mem_map.mpr ⟨p, hp, rfl⟩
    rw [hcs.keys.1] at this
    obtain ⟨q, hq, e⟩ := List.mem_map.mp this
    exact e ▸ x'.above q.1 q.2 hq
  have noneAt : ∀ a, s.heap.objs.size ≤ a → (frees s.heap (own.map (·.1))).get? a = none := fun a ha => by
    refine frees_none ?_
    cases e : s.heap.get? a with
    | none => rfl
    | some o => exact absurd (Heap.lt_size e) (Nat.not_lt.mpr ha)
  refine wpAny_mono (h s.heap.objs.size _ _ cs (R.deeper (env := callEnvC (fnOf name qual params body scope dV kV doc pm an cdv ct) s.heap.objs.size f) ⟨hgen, hco, rfl, rfl⟩) hcs ⟨rfl, rfl, x'.toInCall.ns, fun b o e => x'.toInCall.keep b o (frees_some e).2, noneAt _ (Nat.le_refl _), fun p hp => ?_, ?_⟩) (fun fl s' hq => ?_) fun _ _ e => e.elim
  · rcases List.mem_append.mp hp with hp | hp
    · exact ⟨hcs.keys.2 p hp, Nat.ne_of_gt (above p hp), noneAt _ (Nat.le_of_lt (above p hp))⟩
    · exact ⟨x'.toInCall.keep _ _ (hown p hp), Nat.ne_of_lt (Heap.lt_size (hown p hp)), frees_mem (List.mem_map.mpr ⟨p, hp, rfl⟩)⟩
  · rw [List.map_append, List.nodup_append]
    refine ⟨?_, hnd, fun a ha b hb e => ?_⟩
    · rw [hcs.keys.1]
      exact List.pairwise_map.mpr x'.apart
    · subst e
      obtain ⟨p, hp, rfl⟩ := List.mem_map.mp ha
      obtain ⟨q, hq, e⟩ := List.mem_map.mp hb
      have h1 := above p hp
      have h2 := Heap.lt_size (hown q hq)
      have e' : q.1 = p.1 := e
      rw [e'] at h2
      exact absurd h1 (Nat.lt_asymm h2)
  · cases fl <;> exact hq
end
end Mine
end
section
namespace Mine

abbrev TR (h : Heap) (v : Value) (d : PyData) : Prop := Reads h v d []
abbrev TRs (h : Heap) (vs : List Value) (ds : List PyData) : Prop := ReadsAll h vs ds []

theorem TR.str {h : Heap} {v : Value} {x : Str} (r : TR h v (.str x)) : ∃ t, v = .str x t := by cases r; exact ⟨_, rfl⟩
theorem TR.none {h : Heap} {v : Value} (r : TR h v .none) : v = .none := by cases r; rfl
theorem TR.tup {h : Heap} {v : Value} {ds : List PyData} (r : TR h v (.tuple ds)) : E2 fun a vs => A3 (v = .ref a) (IsTup h a (List.toArray vs)) (TRs h vs ds) := by
  cases r with
  | tuple h1 h2 h3 h4 => exact ⟨_, _, rfl, ⟨_, h1, h2, _, by simpa using h3⟩, h4⟩
theorem TRs.cons {h : Heap} {vs : List Value} {d : PyData} {ds : List PyData} (r : TRs h vs (d :: ds)) : E2 fun v vs' => A3 (vs = v :: vs') (TR h v d) (TRs h vs' ds) := by
  have key : ∀ as, ReadsAll h vs (d :: ds) as → as = [] → E2 fun v vs' => A3 (vs = v :: vs') (TR h v d) (TRs h vs' ds) := by
    intro as r e
    cases r with
    | cons a b =>
      obtain ⟨e1, e2⟩ := List.append_eq_nil_iff.mp e
      subst e1; subst e2
      exact ⟨_, _, rfl, a, b⟩
  exact key _ r rfl
theorem TRs.consStr {h : Heap} {vs : List Value} {x : Str} {ds : List PyData} (r : TRs h vs (.str x :: ds)) : E2 fun t vs' => vs = .str x t :: vs' ∧ TRs h vs' ds := by
  obtain ⟨v, vs', e, a, b⟩ := TRs.cons r
  obtain ⟨t, e'⟩ := TR.str a
  exact ⟨t, vs', e' ▸ e, b⟩
theorem TRs.nil {h : Heap} {vs : List Value} (r : TRs h vs []) : vs = [] := by cases r; rfl
theorem TRs.mk {h : Heap} {v : Value} {vs : List Value} {d : PyData} {ds : List PyData} (a : TR h v d) (b : TRs h vs ds) : TRs h (v :: vs) (d :: ds) := ReadsAll.cons a b
theorem TR.mk {h : Heap} {a : Addr} {vs : List Value} {ds : List PyData} (t : IsTup h a vs.toArray) (r : TRs h vs ds) : TR h (.ref a) (.tuple ds) := by
  obtain ⟨o, ho, hc, n, hd⟩ := t
  exact Reads.tuple ho hc hd (by simpa using r)
theorem TRs.length {h : Heap} : ∀ {vs : List Value} {ds : List PyData}, TRs h vs ds → vs.length = ds.length
  | _, [], r => by rw [TRs.nil r]; rfl
  | _, _ :: _, r => by
    obtain ⟨v, vs', rfl, _, b⟩ := TRs.cons r
    simp [TRs.length b]
theorem lenM {α : Type} {h : Heap} {vs : List Value} {l : List α} {f : α → PyData} (r : TRs h vs (l.map f)) : vs.length = l.length := by
  have := TRs.length r
  rwa [List.length_map] at this
theorem lenTake {α : Type} {h : Heap} {vs : List Value} {l : List α} {i k : Nat} {f : α → PyData} (r : TRs h vs ((l.take i).map f)) (hl : l.length ≤ k) : vs.length ≤ k := Nat.le_trans (Nat.le_of_eq (lenM r)) (Nat.le_trans (List.length_take_le' ..) hl)
theorem lenTake2 {α β : Type} {h : Heap} {vs : List Value} {l : List α} {i k : Nat} {g : α → β} {f : β → PyData} (r : TRs h vs (((l.take i).map g).map f)) (hl : l.length ≤ k) : vs.length ≤ k := Nat.le_trans (Nat.le_of_eq ((lenM r).trans (List.length_map _))) (Nat.le_trans (List.length_take_le' ..) hl)
theorem lenApp {α β γ : Type} {h : Heap} {vs : List Value} {l : List α} {fr : List β} {f : α → γ} {g : β → Option γ} {d : γ → PyData} (r : TRs h vs ((l.map f ++ fr.filterMap g).map d)) (hl : l.length ≤ 10) (hf : fr.length ≤ 5) : vs.length ≤ 1000 :=
  Nat.le_trans (Nat.le_of_eq ((lenM r).trans List.length_append)) (Nat.le_trans (Nat.add_le_add (Nat.le_trans (Nat.le_of_eq (List.length_map _)) hl) (Nat.le_trans (List.length_filterMap_le _ _) hf)) (by decide))
theorem TRs.get {h : Heap} : ∀ {vs : List Value} {ds : List PyData} {i : Nat} {v : Value}, TRs h vs ds → vs[i]? = some v → ∃ d, ds[i]? = some d ∧ TR h v d
  | _, [], i, v, r, e => by rw [TRs.nil r] at e; simp at e
  | _, d :: _, i, v, r, e => by
    obtain ⟨v', vs', rfl, a, b⟩ := TRs.cons r
    cases i with
    | zero => simp at e; subst e; exact ⟨d, rfl, a⟩
    | succ i => obtain ⟨d', hd, hr⟩ := TRs.get b (i := i) (by simpa using e); exact ⟨d', by simpa using hd, hr⟩
theorem TRs.snoc {h : Heap} {v : Value} {d : PyData} (a : TR h v d) : ∀ {vs : List Value} {ds : List PyData}, TRs h vs ds → TRs h (vs ++ [v]) (ds ++ [d])
  | _, [], r => by rw [TRs.nil r]; exact TRs.mk a ReadsAll.nil
  | _, _ :: _, r => by
    obtain ⟨v', vs', rfl, x, y⟩ := TRs.cons r
    exact TRs.mk x (TRs.snoc a y)
noncomputable def Tups (h h' : Heap) : Prop := ∀ b o, h.get? b = some o → TO o → h'.get? b = some o
theorem Tups.of_ext {h h' : Heap} (e : Ext h h') : Tups h h' := fun b o x _ => e b o x
theorem TR.move {h h' : Heap} (k : Tups h h') {d : PyData} {v : Value} (r : TR h v d) : TR h' v d :=
  Reads.rec (motive_1 := fun v d as _ => as = [] → Reads h' v d as) (motive_2 := fun vs ds as _ => as = [] → ReadsAll h' vs ds as) (fun _ => .none) (fun b _ => .bool b) (fun i t _ => .int i t) (fun x t _ => .str x t)
    (fun _ _ _ _ _ e => by cases e) (fun h1 h2 h3 _ ih e => .tuple (k _ _ h1 ⟨h2, _, _, h3⟩) h2 h3 (ih e)) (fun _ _ _ _ _ _ _ e => by cases e) (fun _ => .nil) (fun _ _ ia ib e => .cons (ia (List.append_eq_nil_iff.mp e).1) (ib (List.append_eq_nil_iff.mp e).2)) r rfl
theorem TRs.move {h h' : Heap} (k : Tups h h') {ds : List PyData} {vs : List Value} (r : TRs h vs ds) : TRs h' vs ds :=
  ReadsAll.rec (motive_1 := fun v d as _ => as = [] → Reads h' v d as) (motive_2 := fun vs ds as _ => as = [] → ReadsAll h' vs ds as) (fun _ => .none) (fun b _ => .bool b) (fun i t _ => .int i t) (fun x t _ => .str x t)
    (fun _ _ _ _ _ e => by cases e) (fun h1 h2 h3 _ ih e => .tuple (k _ _ h1 ⟨h2, _, _, h3⟩) h2 h3 (ih e)) (fun _ _ _ _ _ _ _ e => by cases e) (fun _ => .nil) (fun _ _ ia ib e => .cons (ia (List.append_eq_nil_iff.mp e).1) (ib (List.append_eq_nil_iff.mp e).2)) r rfl
theorem TR.keeps {h h' : Heap} (k : Ext h h') {d : PyData} {v : Value} (r : TR h v d) : TR h' v d := r.move (.of_ext k)
theorem TRs.keeps {h h' : Heap} (k : Ext h h') {ds : List PyData} {vs : List Value} (r : TRs h vs ds) : TRs h' vs ds := r.move (.of_ext k)

inductive DatIs {α : Type} (f : α → PyData) (B : Heap) (xs : List α) (i : Nat) (v : Value) : Prop where
  | mk (x : α) (hx : xs[i]? = some x) (hd : TR B v (f x)) : DatIs f B xs i v
theorem datIs {α : Type} {f : α → PyData} {B : Heap} {xs : List α} {vs : List Value} {i : Nat} {v : Value} (h : TRs B vs (xs.map f)) (hv : vs[i]? = some v) : DatIs f B xs i v :=
  (h.get hv).elim fun _ q => (Option.map_eq_some_iff.mp (List.getElem?_map.symm.trans q.1)).elim fun x y => ⟨x, y.1, y.2 ▸ q.2⟩
theorem refOf {α : Type} {f : α → PyData} (hf : ∀ x, ∃ ds, f x = .tuple ds) {B : Heap} {xs : List α} {vs : List Value} {v : Value} (h : TRs B vs (xs.map f)) (hv : v ∈ vs) : ∃ a, v = .ref a := by
  obtain ⟨j, hj⟩ := List.getElem?_of_mem hv
  obtain ⟨x, _, hd⟩ := datIs h hj
  obtain ⟨ds, e⟩ := hf x
  rw [e] at hd
  obtain ⟨a, _, e, _⟩ := hd.tup
  exact ⟨a, e⟩
theorem letD {prog : Program} {w : World} {A : Around} {α : Type} {f : α → PyData} (hf : ∀ x, ∃ ds, f x = .tuple ds) {B : Heap} {xs : List α} {vs : List Value} {elts : List PySem.Expr} {x1 : Nat} {p : Pos} {l : Addr} (h : TRs B vs (xs.map f)) (I : Addr) (i : Nat) (v : Value) (s : Shared) (Q : Unit → Shared → Prop) (hh : s.heap.IsListIter I l i) (hv : v ∈ vs) (hq : Q () s) :
    wpAny (model prog w) A (letOwnedTupleGo (.Tuple elts x1 p) (.ref I) v) Q (fun _ _ => False) s := (refOf hf h hv).elim fun a e => e ▸ let_list I i a s Q hh hq
theorem letT {prog : Program} {w : World} {A : Around} {α : Type} {f : α → PyData} (hf : ∀ x, ∃ ds, f x = .tuple ds) {B : Heap} {xs : List α} {vs : List Value} {elts : List PySem.Expr} {x1 : Nat} {p : Pos} {l : Addr} (h : TRs B vs (xs.map f)) (I : Addr) (i : Nat) (v : Value) (s : Shared) (Q : Unit → Shared → Prop) (hh : s.heap.IsTupleIter I l i) (hv : v ∈ vs) (hq : Q () s) :
    wpAny (model prog w) A (letOwnedTupleGo (.Tuple elts x1 p) (.ref I) v) Q (fun _ _ => False) s := (refOf hf h hv).elim fun a e => e ▸ let_tup I i a s Q hh hq

section
variable {prog : Program} {w : World} {A : Around} {E : Value → Shared → Prop} {s s₀ s' : Shared} {B B₀ : Heap} {L : Addr} {m : Str → Option Value} {own own' : List (Addr × Obj)} {env : Env}

theorem St.ntL (S : St s₀ B L m own s) : ∀ o, s.heap.get? L = some o → NT o := by
  obtain ⟨o, es, ep, ho, hd, _⟩ := S.ns
  intro o' ho'
  rw [ho] at ho'; cases ho'
  exact NT.dict hd
inductive SettleAll (s₀ : Shared) (B : Heap) (L : Addr) (m : Str → Option Value) (own : List (Addr × Obj)) (s : Shared) : Prop where
  | mk (B' : Heap) (hB : Ext B B') (S : St s₀ B' L m own s) (ht : Tups s.heap B') (hin : ∀ b o, s.heap.get? b = some o → b ≠ L → b ∉ own.map (·.1) → B'.get? b = some o) : SettleAll s₀ B L m own s
inductive Settled (s₀ : Shared) (B : Heap) (L : Addr) (m : Str → Option Value) (p : Addr × Obj) (own : List (Addr × Obj)) (s : Shared) : Prop where
  | mk (B' : Heap) (hB : Ext B B') (S : St s₀ B' L m own s) (ht : Tups s.heap B') (hg : B'.get? p.1 = some p.2) : Settled s₀ B L m p own s
theorem St.settle (S : St s₀ B L m own s) (sub : List.Sublist own' own) (nt : ∀ p ∈ own', NT p.2) :
    SettleAll s₀ B L m own' s := by
  obtain ⟨B', hB, S', hin⟩ := S.rebase sub
  refine ⟨B', hB, S', fun b o e t => hin b o e ?_ ?_, hin⟩
  · rintro rfl; exact S.ntL o e t
  · intro hm
    obtain ⟨p, hp, rfl⟩ := List.mem_map.mp hm
    have := (S'.ow p hp).1
    rw [e] at this
    exact nt p hp (Option.some.inj this ▸ t)
theorem St.settle1 {p : Addr × Obj} (S : St s₀ B L m (p :: own) s) (nt : ∀ p ∈ own, NT p.2) :
    Settled s₀ B L m p own s := by
  obtain ⟨B', hB, S', ht, hin⟩ := S.settle (List.sublist_cons_self _ _) nt
  have nd := S.nd
  rw [List.map_cons] at nd
  have z := S.ow p (by first | exact i0 | exact i1 | exact i2 | exact i3 | exact i4 | simp)
  exact ⟨B', hB, S', ht, hin _ _ z.1 z.2.1 (List.nodup_cons.mp nd).1⟩
theorem St.gain {S₁ : Shared} {own₁ : List (Addr × Obj)} {m₁ : Str → Option Value} {a : Addr} {o : Obj} (S₀ : St s₀ B L m₁ own₁ S₁) (hn : S₁.heap.get? a = none) (S : St s₀ B L m own s) (ho : s.heap.get? a = some o) (hk : own.map (·.1) = own₁.map (·.1)) : St s₀ B L m ((a, o) :: own) s := by
  refine ⟨S.gens, S.os, S.ns, S.keep, S.noL, fun p hp => ?_, ?_⟩
  · rcases List.mem_cons.mp hp with rfl | hp
    · refine ⟨ho, ?_, ?_⟩
      · rintro rfl
        obtain ⟨_, _, _, e, _⟩ := S₀.ns
        exact absurd (hn.symm.trans e) (by simp)
      · cases e : B.get? a with
        | none => rfl
        | some o' => exact absurd (hn.symm.trans (S₀.keep _ _ e)) (by simp)
    · exact S.ow p hp
  · rw [List.map_cons]
    refine List.nodup_cons.mpr ⟨fun hm => ?_, S.nd⟩
    rw [hk] at hm
    obtain ⟨p, hp, e⟩ := List.mem_map.mp hm
    have := (S₀.ow p hp).1
    rw [e] at this
    exact absurd (hn.symm.trans this) (by simp)
theorem St.callX {X : List Addr} (S : St s₀ B L m own s) (D : Done X s s') (hX : ∀ x ∈ X, x ∈ own.map (·.1)) (ho : ∀ p ∈ own', s'.heap.get? p.1 = some p.2) (nd : (own'.map (·.1)).Nodup)
    (hk : ∀ p ∈ own', p.1 ∈ own.map (·.1) ∨ s.heap.get? p.1 = none) : St s₀ B L m own' s' := by
  have nX : ∀ b o, B.get? b = some o → b ∉ X := fun b o e hb => by
    obtain ⟨p, hp, rfl⟩ := List.mem_map.mp (hX b hb)
    rw [(S.ow p hp).2.2] at e; cases e
  have nL : L ∉ X := fun hb => by
    obtain ⟨p, hp, e⟩ := List.mem_map.mp (hX L hb)
    exact (S.ow p hp).2.1 e
  refine ⟨D.gens.trans S.gens, D.os.trans S.os, ?_, fun b o e => D.gro b o (nX b o e) (S.keep b o e), S.noL, fun p hp => ⟨ho p hp, ?_⟩, nd⟩
  · obtain ⟨o, es, ep, e, r⟩ := S.ns
    exact ⟨o, es, ep, D.gro _ _ nL e, r⟩
  · rcases hk p hp with hm | hn
    · obtain ⟨q, hq, e⟩ := List.mem_map.mp hm
      rw [← e]; exact (S.ow q hq).2
    · refine ⟨?_, ?_⟩
      · intro e
        obtain ⟨_, _, _, e', _⟩ := S.ns
        exact absurd ((e ▸ hn).symm.trans e') (by simp)
      · cases e : B.get? p.1 with
        | none => rfl
        | some o' => exact absurd (hn.symm.trans (S.keep _ _ e)) (by simp)

theorem St.ne {p q : Addr × Obj} {f : Obj → List (Addr × Obj)} (S : St s₀ B L m (p :: own) s) (h : At q.1 q.2 own f) : p.1 ≠ q.1 := by
  obtain ⟨pre, post, rfl, _⟩ := h.split
  have nd := S.nd
  rw [List.map_cons] at nd
  intro e
  exact (List.nodup_cons.mp nd).1 (by simp [e])
theorem inStrs {l : Addr} {o : Obj} {f : Obj → List (Addr × Obj)} {vs : List Value} {ys : List Str} {k : Str} {t : Tok} {Q : Value → Shared → Prop} (S : St s₀ B L m own s) (hf : At l o own f) (hl : LO vs o) (hi : StrsAre vs ys) (h : Q (.bool (ys.any (· == k))) s) :
    wpAny (model prog w) A (compareOp .In (.str k t) (.ref l)) Q E s := in_list_strs (hl.isList (S.at hf).1) hi h
theorem notinStrs {l : Addr} {o : Obj} {f : Obj → List (Addr × Obj)} {vs : List Value} {ys : List Str} {k : Str} {t : Tok} {Q : Value → Shared → Prop} (S : St s₀ B L m own s) (hf : At l o own f) (hl : LO vs o) (hi : StrsAre vs ys) (h : Q (.bool (!(ys.any (· == k)))) s) :
    wpAny (model prog w) A (compareOp .NotIn (.str k t) (.ref l)) Q E s := notin_list_strs (hl.isList (S.at hf).1) hi h

theorem joinIf {c : Bool} {α : Type} {e₁ e₂ : Sem α} {Q : α → Shared → Prop} (P : α → Shared → Prop) (h1 : c = true → wpAny (model prog w) A e₁ P E s) (h2 : c = false → wpAny (model prog w) A e₂ P E s) (h : ∀ v s', P v s' → Q v s') :
    if c = true then wpAny (model prog w) A e₁ Q E s else wpAny (model prog w) A e₂ Q E s := by
  cases c with
  | true => rw [if_pos rfl]; exact wpAny_mono (h1 rfl) h fun _ _ e => e
  | false => rw [if_neg (by decide)]; exact wpAny_mono (h2 rfl) h fun _ _ e => e

theorem joinSt {c : Bool} {α : Type} {e₁ e₂ : Sem α} {Q : α → Shared → Prop} (S : St s₀ B L m own s) (P : α → List (Addr × Obj) → Prop) (h1 : c = true → wpAny (model prog w) A e₁ (fun v s' => ∃ own', P v own' ∧ St s₀ B L m own' s') E s)
    (h2 : c = false → wpAny (model prog w) A e₂ (fun v s' => ∃ own', P v own' ∧ St s₀ B L m own' s') E s) (h : ∀ v s' own', P v own' → St s₀ B L m own' s' → Q v s') :
    if c = true then wpAny (model prog w) A e₁ Q E s else wpAny (model prog w) A e₂ Q E s :=
  joinIf _ h1 h2 fun v s' ⟨own', hp, S'⟩ => h v s' own' hp S'
end
end Mine
end
section
namespace Mine
theorem Room.under {prog : Program} {k : Nat} {A : Around} {C : Addr} {vals : List Value} (R : Room prog (k + 1) A) : Room prog k (A.under (.builtin "type.__call__" ⟨.ref C :: vals, []⟩)) :=
  ⟨R.h, by rw [PyProof.Rows.depth_under_make, Nat.add_right_comm A.depth 1 k]; exact R.d, by rw [PyProof.Rows.units_under_make]; exact unitsLt (by decide) R.u, R.fr, R.tree⟩
section
variable {prog : Program} {w : World} {A : Around} {E : Value → Shared → Prop} {s s₀ s' : Shared} {B B₀ : Heap} {L : Addr} {m : Str → Option Value} {own own' : List (Addr × Obj)} {env : Env}

theorem enterCode {k : Nat} {X : List Addr} {own : List (Addr × Obj)} {name qual : Str} {params : Arguments} {body : List Stmt} {scope : Scope} {dV kV doc pm cdv ct oc : Value} {an od : Option Addr} {osl : Array (Option Value)} {f : Addr} {args : Args} {binds : List (Str × Value)} {R : Result → Shared → Prop}
    (R' : Room prog (k + 1) A) (G' : Gl w (frees s.heap X)) (hX : own.map (·.1) = X) (hown : ∀ p ∈ own, s.heap.get? p.1 = some p.2) (hnd : (own.map (·.1)).Nodup)
    (ho : (hd.heap_39 w.params).lookup f = some ⟨oc, od, .func (fnOf name qual params body scope dV kV doc pm an cdv ct), osl⟩) (hcd : codeIn (hd.heap_39 w.params) cdv qual = true)
    (hbind : bindArgs (fnOf name qual params body scope dV kV doc pm an cdv ct) args = pure binds) (hloc : ∀ y ∈ binds, scope.names.lookup y.1 = some .local)
    (hcell : ∀ x ∈ scope.names, x.2 ≠ .cell) (hco : scope.isCoroutine = false) (hgen : scope.isGenerator = false) (hk : scope.kind = .function)
    (h : ∀ L A' s', Room prog k A' → St s (frees s.heap X) L (fun y => binds.reverse.lookup y) own s' →
      wpAny (model prog w) A' (execs body (envOf qual scope L f cdv)) (fun fl s' => R (.ok (.ret (match fl with | .ret v => v | _ => .none))) s') (fun _ _ => False) s') :
    codeAny (model prog w) A (.call (.ref f) args) R s := by
  subst hX
  have G : Gl w s.heap := G'.ext (frees_ext _ _)
  refine codeAny_call_def (fd := fnOf name qual params body scope dV kV doc pm an cdv ct) (body := body) (binds := binds) (R'.dlt (x := 0) (by decide)) (G.K _ _ ho) rfl G.lim (codeRec_of G.K hcd) rfl (.of_eq hbind) hcell hloc (fun h₁ hns hk₁ => ?_) hco hgen hk
  refine wpAny_mono (h s.heap.objs.size _ { s with heap := h₁, toks := s.toks + binds.length } (R'.deeper (env := callEnv (fnOf name qual params body scope dV kV doc pm an cdv ct) s.heap.objs.size f) ⟨hgen, hco, rfl, rfl⟩) ⟨rfl, rfl, hns, fun b o e => hk₁ b o (frees_some e).2, ?_, fun p hp => ⟨hk₁ _ _ (hown p hp), Nat.ne_of_lt (Heap.lt_size (hown p hp)), frees_mem (List.mem_map.mpr ⟨p, hp, rfl⟩)⟩, hnd⟩) (fun fl s' hq => hq) fun _ _ e => e.elim
  refine frees_none ?_
  cases e : s.heap.get? s.heap.objs.size with
  | none => rfl
  | some o => exact absurd (Heap.lt_size e) (Nat.lt_irrefl _)

theorem newK {k : Nat} {C fI : Addr} {rest : List Value} {Q : Value → Shared → Prop} (R : Room prog (k + 1) A) (S : St s₀ B L m own s) (G : Gl w B) (hm : makesIn (hd.heap_39 w.params) C = true)
    (hi : findIn (hd.heap_39 w.params) (.ref C) "__init__" = some (some (.ref fI))) (hf : isFn (hd.heap_39 w.params) (.ref fI) = true)
    (h : ∀ x dx s' A', Room prog k A' → St s₀ B L m ((x, instObj C dx) :: (dx, dictOf [] 0) :: own) s' →
      codeAny (model prog w) A' (.call (.ref fI) ⟨.ref x :: rest, []⟩) (fun r s' => match r with | .ok (.ret v) => v = .none ∧ Q (.ref x) s' | _ => False) s') :
    wpAny (model prog w) A (call (.ref C) rest []) Q E s := by
  have X := (G.ext S.keep).K
  have S₁ := (S.push (t := s.toks) emptyDict).push (t := s.toks) (instObj C s.heap.objs.size)
  obtain ⟨hh, g, d, t, os⟩ := s
  refine wpAny_call (make_core (kw := []) (makes_of X hm) (looks_findIn X hi) (fun self => bind_fn X self (beq_iff_eq.mp hf)) (.inl rfl) ?_)
  refine codeAny_mono (h _ hh.objs.size _ _ R.under (by simpa [Heap.size_push] using S₁)) fun r s' z => ?_
  rcases r with e | (v | _ | _ | _) <;> first | exact z | exact z.elim

theorem getA {x C : Addr} {ox : Obj} {es : List DictEntry} {n : Nat} {name : Str} {v : Value} {attr : Option Value} {expr : Bool} {Q : Value → Shared → Prop} (S : St s₀ B L m own s) (G : Gl w B) (I : InstAt s.heap x ox C (some (dictOf es n)))
    (hg : plainGet (hd.heap_39 w.params) C name = true) (hh : hasDictIn (hd.heap_39 w.params) C = true) (ha : findIn (hd.heap_39 w.params) (.ref C) name = some attr) (hn : noGet (hd.heap_39 w.params) attr = true)
    (hl : getL name es = some (some v)) (hv : handedIn v = true) (h : ∀ s', St s₀ B L m own s' → Q v s') : wpAny (model prog w) A (getAttr (.ref x) name expr) Q E s :=
  get_value (G.ext S.keep).K I (plainGet_of hg).1 (findObj_own hh ha hn hl) hv (h _ (S.tok _))
theorem getM {x C f : Addr} {ox : Obj} {es : List DictEntry} {n : Nat} {name : Str} {pl : Sem Bool} {Q : Value × List Value → Shared → Prop} (S : St s₀ B L m own s) (G : Gl w B) (I : InstAt s.heap x ox C (some (dictOf es n)))
    (hg : plainGet (hd.heap_39 w.params) C name = true) (hf : findIn (hd.heap_39 w.params) (.ref C) name = some (some (.ref f))) (ht : isFn (hd.heap_39 w.params) (.ref f) = true) (hl : getL name es = some none) (h : Q (.ref f, [.ref x]) s) :
    wpAny (model prog w) A (getMethod (.ref x) name pl) Q E s :=
  method_fn (G.ext S.keep).K I (plainGet_of hg).1 (plainGet_of hg).2 hf (beq_iff_eq.mp ht) (by show (lookIn name (dictOf es n)).map _ = _; rw [lookIn_dict, hl]; rfl) h
theorem putL_len (name : Str) (hsh : Int) (key v : Value) : ∀ es : List DictEntry, (putL name hsh key v es).length ≤ es.length + 1
  | [] => by simp [putL]
  | e :: r => by
    have := putL_len name hsh key v r
    unfold putL
    split
    · exact Nat.le_succ _
    · exact Nat.succ_le_succ this
theorem setCode {x C dx : Addr} {es : List DictEntry} {n : Nat} {name : Str} {tk : Tok} {v : Value} {fx f : Obj → List (Addr × Obj)} {R : Result → Shared → Prop} (S : St s₀ B L m own s) (X : (hd.heap_39 w.params).In s.heap) (hx : At x (instObj C dx) own fx) (hf : At dx (dictOf es n) own f)
    (hp : plainOver (hd.heap_39 w.params) C = true) (ht : takerIn (hd.heap_39 w.params) C name = some none) (hh : hasDictIn (hd.heap_39 w.params) C = true)
    (hl : (getL name es).isSome = true) (hz : es.length ≤ 500)
    (h : ∀ s' hsh t, St s₀ B L m (f (dictOf (putL name hsh (.str name t) v es) (putN name es n))) s' → R (.ok (.ret .none)) s') :
    codeAny (model prog w) A (.call (.builtin "object.__setattr__") ⟨[.ref x, .str name tk, v], []⟩) R s := by
  have I : InstAt s.heap x (instObj C dx) C (some (dictOf es n)) := ⟨(S.at hx).1, rfl, rfl, (S.at hf).1⟩
  refine osa_open X I hp ht fun b => ?_
  obtain ⟨cd, hc, hd'⟩ := any_some hh
  have D := (S.at hf).1
  have e := putName_dict name (PyData.keyHash w.params name) (.str name s.toks) v es n
  have D' : (s.heap.update dx (Obj.putName name (PyData.keyHash w.params name) (.str name s.toks) v)).get? dx = some (dictOf (putL name (PyData.keyHash w.params name) (.str name s.toks) v es) (putN name es n)) := by
    rw [Heap.get?_update_self _ D (by rw [e]; rfl), e]
  have S' := S.turnAt (t := s.toks + 1) hf D' (Heap.SameBut.update ..)
  refine wpAny_bind (wpAny_pure (wpAny_bind (wpAny_bind (wpAny_loadPart (S.at hx).1 (wpAny_bind ((looks_clsIn X hc).here ?_))))))
  rw [hd']
  refine wpAny_pure (a := some dx) (wpAny_bind (wpAny_pure (wpAny_bind ?_)))
  unfold nsSet
  refine wpAny_bind (wpAny_bind (wpAny_askSetting (wpAny_pure (wpAny_bind (wpAny_mkText (wpAny_bind (wpAny_loadPart D ?_)))))))
  dsimp only
  have c : (!es.toArray.any (·.key.isStr name) && es.toArray.any (·.refKey)) = false := by
    rw [← Array.any_toList, ← Array.any_toList]
    unfold getL at hl
    split at hl
    · rename_i en he
      rw [List.any_eq_true.mpr ⟨en, List.mem_of_find?_eq_some he, List.find?_some he⟩]; rfl
    · split at hl
      · cases hl
      · rename_i z; rw [Bool.not_eq_true] at z; rw [z, Bool.and_false]
  have hzz : (putL name (PyData.keyHash w.params name) (.str name s.toks) v es).length ≤ 16777216 := Nat.le_trans (putL_len ..) (Nat.le_trans (Nat.succ_le_succ hz) (by decide))
  rw [aRefKeyMayBeTheName_at, c]
  refine wpAny_updatePart D ?_
  refine wpAny_bind (wpAny_lookBehind D' (pastItsLine_dict (by rw [List.size_toArray, sizeLine_eq]; exact Nat.le_succ_of_le hzz)) ?_)
  exact wpAny_pure (h _ _ _ S')
theorem setA {x C dx : Addr} {es : List DictEntry} {n : Nat} {name : Str} {v : Value} {fx f : Obj → List (Addr × Obj)} {Q : Unit → Shared → Prop} (S : St s₀ B L m own s) (G : Gl w B) (hx : At x (instObj C dx) own fx) (hf : At dx (dictOf es n) own f)
    (hs : findIn (hd.heap_39 w.params) (.ref C) "__setattr__" = some (some (.builtin "object.__setattr__"))) (hp : plainOver (hd.heap_39 w.params) C = true) (ht : takerIn (hd.heap_39 w.params) C name = some none) (hh : hasDictIn (hd.heap_39 w.params) C = true)
    (hl : (getL name es).isSome = true) (hz : es.length ≤ 500)
    (h : ∀ s' hsh t, St s₀ B L m (f (dictOf (putL name hsh (.str name t) v es) (putN name es n))) s' → Q () s') : wpAny (model prog w) A (setAttr (.ref x) name v) Q E s := by
  have X := (G.ext S.keep).K
  have I : InstAt s.heap x (instObj C dx) C (some (dictOf es n)) := ⟨(S.at hx).1, rfl, rfl, (S.at hf).1⟩
  exact set_plain X I hs (setCode (S.tok (s.toks + 1)) X hx hf hp ht hh hl hz fun s' hsh t S' => h s' hsh t S')

noncomputable def DS (prog : Program) (w : World) (h : Heap) (d : Addr) (kvs : List (Str × Value)) : Prop := (d == sysModules) = false ∧ h.DictOf (PySem.strKind prog w) d kvs
theorem DS.keeps {h h' : Heap} {d : Addr} {kvs : List (Str × Value)} (T : DS prog w h d kvs) (e : Ext h h') : DS prog w h' d kvs := ⟨T.1, T.2.keep e⟩
theorem DS.of {h : Heap} {d : Addr} {o : Obj} {kvs : List (Str × Value)} (e : h.get? d = some o) (n : (d == sysModules) = false) (x : o.IsDictOf (PySem.strKind prog w) kvs) : DS prog w h d kvs := ⟨n, Heap.dictOf_iff.mpr ⟨o, e, x⟩⟩
theorem isStr_self (x : Str) (t : Tok) : (PySem.strKind prog w).is x (.str x t) = true := strKind_is prog w x t
theorem dIn {d : Addr} {kvs : List (Str × Value)} {x : Str} {t : Tok} {Q : Value → Shared → Prop} (S : St s₀ B L m own s) (T : DS prog w s.heap d kvs) (h : ∀ s', St s₀ B L m own s' → Q (.bool (valueAt kvs x).isSome) s') : wpAny (model prog w) A (compareOp .In (.str x t) (.ref d)) Q E s :=
  wpAny_in_of (isStr_self x t) T.1 T.2.mapOf (h _ (S.tok _))
theorem dNotIn {d : Addr} {kvs : List (Str × Value)} {x : Str} {t : Tok} {Q : Value → Shared → Prop} (S : St s₀ B L m own s) (T : DS prog w s.heap d kvs) (h : ∀ s', St s₀ B L m own s' → Q (.bool (!(valueAt kvs x).isSome)) s') : wpAny (model prog w) A (compareOp .NotIn (.str x t) (.ref d)) Q E s :=
  wpAny_notIn_of (isStr_self x t) T.1 T.2.mapOf (h _ (S.tok _))
theorem dItem {value slice : PySem.Expr} {d : Addr} {kvs : List (Str × Value)} {x : Str} {t : Tok} {v : Value} {Q : Value → Shared → Prop} (S : St s₀ B L m own s) (T : DS prog w s.heap d kvs) (hv : valueAt kvs x = some v) (h : ∀ s', St s₀ B L m own s' → Q v s')
    (hs : subscripted slice false (.ref d) (.str x t) = operate [.ref d, .str x t] (getItem (.ref d) (.str x t)) := by with_unfolding_all rfl) (hg : ∀ r, letTemporaryGo value (.ref d) r = pure () := by intro _; with_unfolding_all rfl) :
    wpAny (model prog w) A (subscriptTail value slice (.ref d) (.str x t)) Q E s :=
  subscriptTail_builtin T.2.typeIs slot_dict_getitem.lookup (wpAny_getItem_of (isStr_self x t) T.2.mapOf hv (h _ (S.tok _))) hs hg
theorem dGm {d : Addr} {kvs : List (Str × Value)} {pl : Sem Bool} {Q : Value × List Value → Shared → Prop} (T : DS prog w s.heap d kvs) (h : Q (.builtin "dict.get", [.ref d]) s) : wpAny (model prog w) A (getMethod (.ref d) "get" pl) Q E s :=
  getMethod_builtin T.2.typeIs PySem.F.plainAttrs_dict PySem.F.slot_dict_get PySem.F.type_dict_get T.2.mapOf.noDict h
theorem dGet1 {d : Addr} {kvs : List (Str × Value)} {x : Str} {t : Tok} {Q : Value → Shared → Prop} (S : St s₀ B L m own s) (T : DS prog w s.heap d kvs) (h : ∀ s', St s₀ B L m own s' → Q ((valueAt kvs x).getD .none) s') :
    wpAny (model prog w) A (call (.builtin "dict.get") [.ref d, .str x t]) Q E s :=
  call_meetsIn PySem.F.slot_dict_get T.2.typeIs PySem.F.entry_dict_get (PySem.F.args_dict_get_2 _ _) (meets_dict_get (PySem.strKind prog w) d (isStr_self x t) T.1) ⟨_, T.2.mapOf, h _ (S.tok _)⟩
theorem dGet2 {d : Addr} {kvs : List (Str × Value)} {x : Str} {t : Tok} {df : Value} {Q : Value → Shared → Prop} (S : St s₀ B L m own s) (T : DS prog w s.heap d kvs) (h : ∀ s', St s₀ B L m own s' → Q ((valueAt kvs x).getD df) s') :
    wpAny (model prog w) A (call (.builtin "dict.get") [.ref d, .str x t, df]) Q E s :=
  call_meetsIn PySem.F.slot_dict_get T.2.typeIs PySem.F.entry_dict_get (PySem.F.args_dict_get_3 _ _ _) (meets_dict_get_default (PySem.strKind prog w) d (isStr_self x t) T.1 df) ⟨_, T.2.mapOf, h _ (S.tok _)⟩
theorem dSet {d : Addr} {o : Obj} {f : Obj → List (Addr × Obj)} {kvs : List (Str × Value)} {x : Str} {t : Tok} {v : Value} {Q : Unit → Shared → Prop} (S : St s₀ B L m own s) (hf : At d o own f) (hd : o.IsDictOf (PySem.strKind prog w) kvs) (hz : kvs.length ≤ 1000)
    (h : ∀ s' o', o'.IsDictOf (PySem.strKind prog w) (stored kvs x v) → St s₀ B L m (f o') s' → Q () s') : wpAny (model prog w) A (setItem (.ref d) (.str x t) v) Q E s := by
  refine wpAny_setItem_pairs (isStr_self x t) (Heap.dictOf_iff.mpr ⟨o, (S.at hf).1, hd⟩) (fun h' hd' hs => ?_) (Nat.le_trans hz (by decide))
  obtain ⟨o', ho', hd''⟩ := Heap.dictOf_iff.mp hd'
  exact h _ o' hd'' (S.turnAt hf ho' hs)
theorem isDict0 : (emptyDict).IsDictOf (PySem.strKind prog w) [] := by
  obtain ⟨o, ho, hd⟩ := Heap.dictOf_iff.mp (Heap.DictOf.new (knd := PySem.strKind prog w) {})
  rw [Heap.get?_push_size _ rfl] at ho
  have e := Option.some.inj ho
  subst e
  exact hd
theorem dNew {pos : Pos} {Q : Value → Shared → Prop} (S : St s₀ B L m own s) (G : Gl w B) (h : ∀ s' a, St s₀ B L m ((a, emptyDict) :: own) s' → (a == sysModules) = false → Q (.ref a) s') : wpAny (model prog w) A (eval (.Dict [] [] pos) env) Q E s :=
  wpAny_Dict_empty (h _ _ (S.push (t := s.toks) emptyDict) (beq_eq_false_iff_ne.mpr (Nat.ne_of_gt (modules_low (G.ext S.keep).lim))))

theorem St.extX {X : List Addr} (S : St s₀ B L m own s) (h : ∀ x ∈ X, x ∈ own.map (·.1)) : Ext B (frees s.heap X) := fun b o e => by
  rw [frees_not]
  · exact S.keep b o e
  · intro hb
    obtain ⟨p, hp, rfl⟩ := List.mem_map.mp (h b hb)
    rw [(S.ow p hp).2.2] at e; cases e

theorem putL_le {name : Str} {hsh : Int} {key v : Value} {es : List DictEntry} {k : Nat} (h : es.length ≤ k) : (putL name hsh key v es).length ≤ k + 1 := Nat.le_trans (putL_len ..) (Nat.succ_le_succ h)
theorem St.back {pre pre' rest : List (Addr × Obj)} {X : List Addr} {L' : Addr} {m' : Str → Option Value} (S : St s₀ B L m (pre ++ rest) s) (S' : St s (frees s.heap X) L' m' pre' s') (hX : X = pre.map (·.1)) : St s₀ B L m (pre' ++ rest) s' := by
  subst hX
  have nd := S.nd
  rw [List.map_append, List.nodup_append] at nd
  have off : ∀ r ∈ rest, r.1 ∉ pre.map (·.1) := fun r hr hm => nd.2.2 _ hm _ (List.mem_map.mpr ⟨r, hr, rfl⟩) rfl
  have apart : ∀ p ∈ pre', ∀ r ∈ rest, p.1 ≠ r.1 := fun p hp r hr e => by
    have h1 := (S'.ow p hp).2.2
    rw [e, frees_not (off r hr), (S.ow r (List.mem_append_right _ hr)).1] at h1
    cases h1
  refine S.callX S'.done (fun x hx => by rw [List.map_append]; exact List.mem_append_left _ hx) (fun p hp => ?_) ?_ (fun p hp => ?_)
  · rcases List.mem_append.mp hp with hp | hp
    · exact (S'.ow p hp).1
    · exact S'.done.gro _ _ (off p hp) (S.ow p (List.mem_append_right _ hp)).1
  · rw [List.map_append, List.nodup_append]
    refine ⟨S'.nd, nd.2.1, fun a ha b hb e => ?_⟩
    obtain ⟨p, hp, rfl⟩ := List.mem_map.mp ha
    obtain ⟨r, hr, rfl⟩ := List.mem_map.mp hb
    exact apart p hp r hr e
  · rcases List.mem_append.mp hp with hp | hp
    · by_cases q : p.1 ∈ pre.map (·.1)
      · exact .inl (by rw [List.map_append]; exact List.mem_append_left _ q)
      · refine .inr ?_
        rw [← frees_not q]; exact (S'.ow p hp).2.2
    · exact .inl (by rw [List.map_append]; exact List.mem_append_right _ (List.mem_map.mpr ⟨p, hp, rfl⟩))

theorem At.mid {a : Addr} {o : Obj} {post : List (Addr × Obj)} : ∀ pre : List (Addr × Obj), At a o (pre ++ (a, o) :: post) (fun o' => pre ++ (a, o') :: post)
  | [] => .head
  | _ :: r => .tail (At.mid r)
theorem stored_new {kvs : List (Str × Value)} {k : Str} {v : Value} (h : valueAt kvs k = none) : stored kvs k v = kvs ++ [(k, v)] := by
  unfold stored
  rw [if_neg]
  intro ha
  obtain ⟨kv, hm, e⟩ := List.any_eq_true.mp ha
  unfold valueAt at h
  rw [Option.map_eq_none_iff] at h
  exact absurd e (by have := List.find?_eq_none.mp h kv hm; simpa using this)
theorem valueAt_snoc {kvs : List (Str × Value)} {k k' : Str} {v : Value} : valueAt (kvs ++ [(k, v)]) k' = (valueAt kvs k').or (if k = k' then some v else none) := by
  unfold valueAt
  rw [List.find?_append]
  cases kvs.find? (fun kv => kv.1 = k') with
  | some x => simp
  | none => by_cases e : k = k' <;> simp [e]
end
end Mine
end
section
namespace Mine
section
variable {prog : Program} {w : World} {A : Around} {E : Value → Shared → Prop} {s s₀ s' : Shared} {B B₀ : Heap} {L : Addr} {m : Str → Option Value} {own own' : List (Addr × Obj)} {env : Env}
theorem tupOf {l : Addr} {vs : List Value} {Q : Value → Shared → Prop} (S : St s₀ B L m own s) (hl : s.heap.IsList l vs.toArray) (hsz : vs.length ≤ 1000)
    (h : ∀ s' a, St s₀ B L m ((a, { cls := .type "tuple", data := .seq vs.toArray }) :: own) s' → Q (.ref a) s') : wpAny (model prog w) A (call (.type "tuple") [.ref l]) Q E s := by
  refine call_tuple_list hl (fun h' hk => ?_) (Nat.le_trans hsz (by decide))
  have S' : St s₀ B L m own { s with heap := h', toks := s.toks } := S.grow hk
  exact h _ _ (S'.push (t := s.toks) { cls := .type "tuple", data := .seq vs.toArray })
theorem listOfL {l : Addr} {vs : List Value} {Q : Value → Shared → Prop} (S : St s₀ B L m own s) (hl : s.heap.IsList l vs.toArray) (hsz : vs.length ≤ 1000)
    (h : ∀ s' a o, LX vs o → St s₀ B L m ((a, o) :: own) s' → Q (.ref a) s') : wpAny (model prog w) A (call (.type "list") [.ref l]) Q E s := by
  obtain ⟨o, ho, hc, n, hd⟩ := hl
  refine call_list_seq (hsz := Nat.le_trans hsz (by decide)) l (.inl rfl) ho hc hd fun h' c' hk hD => ?_
  have S₀ : St s₀ B L m own { s with heap := h', toks := s.toks } := S.grow hk
  have hn : s.heap.get? s.heap.objs.size = none := by
    cases e : s.heap.get? s.heap.objs.size with
    | none => rfl
    | some o => exact absurd (Heap.lt_size e) (Nat.lt_irrefl _)
  exact h _ _ _ ⟨c', rfl⟩ (S.gain hn S₀ hD rfl)
theorem valueAt_nodup {kvs : List (Str × Value)} : ∀ {i : Nat} {x : Str} {v : Value}, kvs[i]? = some (x, v) → (kvs.map (·.1)).Nodup → valueAt kvs x = some v := by
  induction kvs with
  | nil => intro i x v e; simp at e
  | cons p r ih =>
    intro i x v e nd
    rw [List.map_cons, List.nodup_cons] at nd
    cases i with
    | zero => simp at e; subst e; simp [valueAt]
    | succ i =>
      have e' : r[i]? = some (x, v) := by simpa using e
      have hne : p.1 ≠ x := fun h => nd.1 (by rw [h]; exact List.mem_map.mpr ⟨(x, v), List.mem_of_getElem? e', rfl⟩)
      have := ih e' nd.2
      unfold valueAt at this ⊢
      rw [List.find?_cons]
      simp only [hne, decide_false]
      exact this
theorem DS.nodup {h : Heap} {d : Addr} {kvs : List (Str × Value)} (T : DS prog w h d kvs) : (kvs.map (·.1)).Nodup := by
  obtain ⟨_, o, es, ep, _, _, _, _, _, nd⟩ := T
  exact nd

theorem St.settleD {S₁ : Shared} {m₁ : Str → Option Value} {d : Addr} {kvs : List (Str × Value)} (S₀ : St s₀ B L m₁ [] S₁) (S : St s₀ B L m [] s) (T : DS prog w s.heap d kvs) (f : DS prog w B d kvs ∨ S₁.heap.get? d = none) :
    ∃ B', A3 (Ext B B') (St s₀ B' L m [] s) (DS prog w B' d kvs) := by
  rcases f with f | f
  · exact ⟨B, Ext.refl _, S, f⟩
  · obtain ⟨B', hB, S', _, hin⟩ := S.settle (List.Sublist.refl _) (by simp)
    obtain ⟨n, hd⟩ := T
    obtain ⟨o, ho, hx⟩ := Heap.dictOf_iff.mp hd
    refine ⟨B', hB, S', DS.of (hin _ _ ho ?_ (by simp)) n hx⟩
    rintro rfl
    obtain ⟨_, _, _, e, _⟩ := S₀.ns
    exact absurd (f.symm.trans e) (by simp)

theorem assPair {x₁ x₂ : Str} {p₁ p₂ pos : Pos} {k j : Nat} {a : Addr} {v₁ v₂ : Value} {Q : Unit → Shared → Prop} (R : Room prog j A) (S : St s₀ B L m own s) (ht : IsTup s.heap a (List.toArray [v₁, v₂]))
    (h : ∀ s', St s₀ B L (put x₂ v₂ (put x₁ v₁ m)) own s' → Q () s')
    (hL : env.locals = L := by rfl) (hk : env.scope.kind = .function := by rfl) (hl₁ : env.kindOf x₁ = some .local := by rfl) (hl₂ : env.kindOf x₂ = some .local := by rfl) :
    wpAny (model prog w) A (assign (.Tuple [.Name x₁ p₁, .Name x₂ p₂] k pos) env (.ref a)) Q E s :=
  assTup R S ht fun s₁ S₁ => assCons (assName S₁ (fun s₂ S₂ => assCons (assName S₂ (fun s₃ S₃ => assNil (h s₃ S₃)) hL hk hl₂)) hL hk hl₁)
theorem toldTake {α β : Type} {l : List α} {f : α → β} {i : Nat} {x : α} (h : l[i]? = some x) : (l.take (i + 1)).map f = (l.take i).map f ++ [f x] := by
  rw [List.take_add_one, h, List.map_append]; rfl
end
end Mine
end
section
open Sem (wp)
namespace Mine
theorem keysMiss : typeLookup (.type "list") "keys" = pure none := am_miss_of_fast (by decide +kernel)
theorem gaMissBy {prog : Program} {w : World} {A : Around} {E : Value → Shared → Prop} {s : Shared} {a : Addr} {xs : Array Value} {k : Nat} {sl : Array (Option Value)} {u : Tok} {Q : Value → Shared → Prop}
    (hx : s.heap.get? a = some { cls := .type "list", dict := none, data := .seq xs k, slots := sl }) (hA : A.handled = none)
    (h : ∀ h' tk e, Heap.NewExcOf s.heap h' e "AttributeError" → E (.ref e) { s with heap := h', toks := tk }) :
    wpAny (model prog w) A (getAttrBy (.ref a) (.str "keys" u) false) Q E s := by
  obtain ⟨hp, g, d, tk, os⟩ := s
  have hT : ∀ tk', (⟨hp, g, d, tk', os⟩ : Shared).TypeIs (.ref a) "list" := fun _ => ⟨_, hx, rfl⟩
  have f1 := sub_AttributeError
  have f3 := F.slot_list_getattribute.lookup
  have f4 := F.slot_list_getattribute.bind (.ref a)
  have f5 := am_list_getattr_none
  unfold getAttrBy
  repeat (any_goals (first | assumption | exact hT _ | ((with_reducible show wpAny _ _ (call (Value.builtin "list.__getattribute__") _ _) _ _ _); refine call_meets F.slot_list_getattribute (hT _) am_entry_list_getattribute (F.args_list_getattribute_2 _ _) (meets_getattribute_miss_list a xs k sl "keys" _ keysMiss (by decide +kernel)) ⟨hx, hA, fun h' tk' e hx' => ?_⟩) | wp_step))
  obtain ⟨t', u', he⟩ := hx'.there
  show wpAny _ _ (getattributeRaised _ _ _ _ _ _ _) _ _ _
  unfold getattributeRaised
  repeat (any_goals (first | assumption | wp_step))
  exact h _ _ _ hx'.of
theorem gaMiss {prog : Program} {w : World} {A : Around} {E : Value → Shared → Prop} {s : Shared} {a : Addr} {xs : Array Value} {k : Nat} {sl : Array (Option Value)} {Q : Option Value → Shared → Prop}
    (hx : s.heap.get? a = some { cls := .type "list", dict := none, data := .seq xs k, slots := sl }) (hA : A.handled = none)
    (h : ∀ h' tk, Ext s.heap h' → Q none { s with heap := h', toks := tk }) : wpAny (model prog w) A (getAttr? (.ref a) "keys") Q E s := by
  unfold getAttr? getAttrBy?
  refine wpAny_bind (wpAny_mkText (wpAny_bind (wpAny_attempt (gaMissBy (s := { s with toks := s.toks + 1 }) hx hA fun h' tk e hn => ?_))))
  obtain ⟨ob, vs, he, hc, _⟩ := hn.there
  dsimp only
  refine wpAny_bind (wpAny_isInstance (T := "AttributeError") (show Shared.TypeIs _ (.ref e) "AttributeError" from ⟨_, he, hc⟩) sub_AttributeError ?_)
  exact wpAny_pure (h _ _ hn.keeps)

section
variable {prog : Program} {w : World} {A : Around} {E : Value → Shared → Prop} {s s₀ s' : Shared} {B B₀ : Heap} {L : Addr} {m : Str → Option Value} {own own' : List (Addr × Obj)} {env : Env}
noncomputable def PairAt (h : Heap) (v : Value) (p : Str × Value) : Prop := E2 fun a t => v = .ref a ∧ IsTup h a (List.toArray [.str p.1 t, p.2])
theorem dlEntry : entryFor table "dict.update.loop" = some Builtin.«dict.update.loop» := entryFor_of_tree (by kernel_rfl)
noncomputable def fillD (ps : List (Str × Value)) : List (Str × Value) := ps.foldl (fun kvs p => stored kvs p.1 p.2) []
theorem fillD_len : ∀ ps : List (Str × Value), (fillD ps).length ≤ ps.length := by
  have key : ∀ (ps acc : List (Str × Value)), (ps.foldl (fun kvs p => stored kvs p.1 p.2) acc).length ≤ acc.length + ps.length := by
    intro ps
    induction ps with
    | nil => intro acc; exact Nat.le_refl _
    | cons p r ih =>
      intro acc
      refine Nat.le_trans (ih _) ?_
      have : (stored acc p.1 p.2).length ≤ acc.length + 1 := by
        unfold stored
        split
        · simp
        · simp
      rw [List.length_cons, Nat.add_comm r.length 1, ← Nat.add_assoc]
      exact Nat.add_le_add_right this _
  intro ps
  have := key ps []
  simp only [List.length_nil, Nat.zero_add] at this
  exact this
theorem fillD_snoc (ps : List (Str × Value)) (p : Str × Value) : fillD (ps ++ [p]) = stored (fillD ps) p.1 p.2 := by
  unfold fillD; rw [List.foldl_append]; rfl

theorem dictLoop {l I d : Addr} {vs : List Value} {ps : List (Str × Value)} {R : Result → Shared → Prop} (hh : A.handled = none) (hl : B.IsList l vs.toArray) (hv : ∀ i : Nat, ∀ v, vs[i]? = some v → ∃ p, ps[i]? = some p ∧ PairAt B v p) (hn : vs.length = ps.length) (hz : ps.length ≤ 1000)
    (h : ∀ s' o, o.IsDictOf (PySem.strKind prog w) (fillD ps) → St s₀ B L m ((d, o) :: own) s' → R (.ok (.ret .none)) s') :
    ∀ (n i : Nat) (s : Shared) (od oI : Obj) (ti : Tok), i + n = ps.length → od.IsDictOf (PySem.strKind prog w) (fillD (ps.take i)) → s.heap.IsListIter I l i → St s₀ B L m ((I, oI) :: (d, od) :: own) s →
      codeAny (model prog w) A (.builtin "dict.update.loop" ⟨[.ref d, .ref I, .int i ti, .none], []⟩) R s := by
  have hlI : ∀ s oI od, St s₀ B L m ((I, oI) :: (d, od) :: own) s → l ≠ I := fun s oI od S e => by
    obtain ⟨o, ho, _⟩ := hl
    have := (S.ow (I, oI) (by first | exact i0 | exact i1 | exact i2 | exact i3 | exact i4 | simp)).2.2
    rw [← e, ho] at this; cases this
  intro n
  induction n with
  | zero =>
    intro i s od oI ti hi hd hI S
    refine codeAny_builtin dlEntry ?_
    unfold Builtin.«dict.update.loop»
    have W := Walks.list (prog := prog) (w := w) (A := A.under (.builtin "dict.update.loop" ⟨[.ref d, .ref I, .int i ti, .none], []⟩)) hh I l (hlI _ _ _ S) vs.toArray
    have hsz : vs.toArray.size = i := hn.trans hi.symm
    refine wpAny_bind (W.done s _ _ ⟨by rw [hsz]; exact hI, hl.at fun o e => S.keep _ _ e⟩ fun h' tk hk => ?_)
    have S' := S.iterDrop (tk := tk) hk
    show wpAny _ _ (Builtin.Dict.addKeywords d [] >>= _) _ _ _
    rw [List.take_of_length_le (show ps.length ≤ i from Nat.le_of_eq hi.symm)] at hd
    exact wpAny_bind (wpAny_pure (wpAny_pure (h _ _ hd S')))
  | succ n ih =>
    intro i s od oI ti hi hd hI S
    refine codeAny_builtin dlEntry ?_
    unfold Builtin.«dict.update.loop»
    have W := Walks.list (prog := prog) (w := w) (A := A.under (.builtin "dict.update.loop" ⟨[.ref d, .ref I, .int i ti, .none], []⟩)) hh I l (hlI _ _ _ S) vs.toArray
    refine wpAny_bind (W.item i s _ _ (by rw [List.size_toArray, hn, ← hi]; exact Nat.lt_add_of_pos_right (Nat.succ_pos n)) ⟨hI, hl.at fun o e => S.keep _ _ e⟩ fun v h' tk hvi hS hk => ?_)
    obtain ⟨p, hp, a, tp, rfl, hta⟩ := hv i v (by simpa using hvi)
    obtain ⟨oI', ho', hrest⟩ := id hS.1
    have S' := S.iterStep (tk := tk) hk ho'
    refine wpAny_bind (wpAny_holding (wpAny_bind (wpAny_tryCatch ?_)))
    unfold Builtin.Dict.pairItems
    obtain ⟨ot, hot, hct, nt, hdt⟩ := IsTup.keeps hta S'.keep
    refine wpAny_bind (wpAny_typeOf (show Shared.TypeIs _ (.ref a) "tuple" from ⟨ot, hot, hct⟩) ?_)
    rw [if_pos (by decide)]
    refine wpAny_bind (wpAny_seqItems hot hdt (wpAny_pure ?_))
    dsimp only [Option.getD_some]
    have hm : h'.DictOf (PySem.strKind prog w) d (fillD (ps.take i)) := Heap.dictOf_iff.mpr ⟨od, (S'.ow (d, od) (by first | exact i0 | exact i1 | exact i2 | exact i3 | exact i4 | simp)).1, hd⟩
    refine wpAny_holding (wpAny_dictSet_pairs (isStr_self p.1 tp) hm (fun h₂ hm₂ hs₂ => ?_) (Nat.le_trans (fillD_len _) (Nat.le_trans (List.length_take_le' ..) (Nat.le_trans hz (by decide)))))
    obtain ⟨od₂, hod₂, hd₂⟩ := Heap.dictOf_iff.mp hm₂
    have S₂ := S'.turnAt (t := tk + 1) (.tail .head) hod₂ hs₂
    refine wpAny_pure (a := Fin.again _) ⟨Code.quiet_builtin _ (by decide +kernel), ?_⟩
    refine ih (i + 1) _ od₂ oI' 0 (by rw [Nat.add_right_comm]; exact hi) ?_ ⟨oI', (S₂.ow (I, oI') (by first | exact i0 | exact i1 | exact i2 | exact i3 | exact i4 | simp)).1, hrest⟩ S₂
    have e : ps.take (i + 1) = ps.take i ++ [p] := by rw [List.take_add_one, hp]; rfl
    rw [e, fillD_snoc]; exact hd₂
theorem dictOfL {l : Addr} {ol : Obj} {vs : List Value} {ps : List (Str × Value)} {k : Nat} {Q : Value → Shared → Prop} (R : Room prog k A) (S : St s₀ B L m own s) (G : Gl w B) (ho : B.get? l = some ol) (hl : LX vs ol) (hv : ∀ i : Nat, ∀ v, vs[i]? = some v → ∃ p, ps[i]? = some p ∧ PairAt B v p) (hn : vs.length = ps.length) (hz : ps.length ≤ 1000)
    (h : ∀ s' a o, o.IsDictOf (PySem.strKind prog w) (fillD ps) → (a == sysModules) = false → St s₀ B L m ((a, o) :: own) s' → Q (.ref a) s') : wpAny (model prog w) A (call (.type "dict") [.ref l]) Q E s := by
  refine callType_codes (Q₁ := fun obj s₁ => obj = .ref s.heap.objs.size ∧ s₁ = { s with heap := s.heap.push { cls := .type "dict", data := .dict #[] } }) F.kt_called_dict (F.kt_typeCall_dict_1 _) F.entry_dict_init (kt_code_dict_new _ ⟨rfl, rfl⟩) ?_
  rintro obj s₁ ⟨rfl, rfl⟩
  have hnew : (s.heap.push { cls := .type "dict", data := .dict #[] }).DictOf (PySem.strKind prog w) s.heap.objs.size [] := Heap.DictOf.new s.heap
  have S₁ := S.push (t := s.toks) emptyDict
  obtain ⟨nl, rfl⟩ := id hl
  have hlo : (s.heap.push { cls := .type "dict", data := .dict #[] }).get? l = some (listOf vs.toArray nl) := S₁.keep _ _ ho
  refine ⟨hnew.typeIs, F.args_dict_init_2 _ _, ?_⟩
  unfold Builtin.«dict.__init__»
  refine wpAny_bind ?_
  unfold Builtin.Dict.selfAndRest
  refine wpAny_bind (wpAny_notOrdered_dict hnew.typeIs ?_)
  show wpAny _ _ (pure (s.heap.objs.size, [Value.ref l])) _ _ _
  refine wpAny_pure ?_
  show wpAny _ _ (Builtin.Dict.updateFrom "dict.__init__" s.heap.objs.size (.ref l) [] .none) _ _ _
  unfold Builtin.Dict.updateFrom
  refine wpAny_bind (wpAny_typeOf (show Shared.TypeIs _ (.ref l) "list" from ⟨_, hlo, rfl⟩) ?_)
  rw [if_pos (by decide)]
  refine wpAny_bind (gaMiss hlo R.h fun h' tk he => ?_)
  have S₂ : St s₀ B L m ((s.heap.objs.size, emptyDict) :: own) { s with heap := h', toks := tk } := S₁.grow (t := tk) he
  have hBl : B.IsList l vs.toArray := ⟨_, ho, rfl, _, rfl⟩
  have hl' : h'.IsList l vs.toArray := hBl.at fun o e => S₂.keep _ _ e
  rw [if_pos (by rfl)]
  refine wpAny_bind (wpAny_rule ?_)
  refine wpAny_bind (wpAny_pyIter_list hl' (wpAny_pure (a := Fin.again _) ⟨Code.quiet_builtin _ (by decide +kernel), ?_⟩))
  refine dictLoop (A := A.in1) (m := m) (own := own) (ps := ps) R.h hBl hv hn hz (fun s' o hd S' => ?_) ps.length 0 _ emptyDict { cls := .type "list_iterator", data := .fields #[.ref l, .int 0 0] } 0 (Nat.zero_add _) isDict0 ⟨_, Heap.get?_push_size _ rfl, rfl, rfl⟩ (S₂.push (t := tk) _)
  exact ⟨rfl, h _ _ _ hd (beq_eq_false_iff_ne.mpr (Nat.ne_of_gt (modules_low (G.ext S.keep).lim))) S'⟩
end
end Mine
end
section
namespace Mine
section
variable {prog : Program} {w : World} {A : Around} {E : Value → Shared → Prop} {s s₀ s' : Shared} {B B₀ : Heap} {L : Addr} {m : Str → Option Value} {own own' : List (Addr × Obj)} {env : Env}
theorem cnm' {x : Str} {pos : Pos} {v : Value} {c : Addr} {o : Obj} {f : Obj → List (Addr × Obj)} {Q : Value → Shared → Prop} (hc : env.cells.lookup x = some c) (S : St s₀ B L m own s) (hf : At c o own f) (hv : CO (some v) o) (h : Q v s)
    (hk : env.scope.kind = .function := by rfl) (hl : env.kindOf x = some .cell := by rfl) (hd : (x == ("__debug__" : Str)) = false := by decide) :
    wpAny (model prog w) A (eval (.Name x pos) env) Q E s := cnm S hf hv h hc hk hl hd
theorem csto' {x : Str} {v : Value} {v₀ : Option Value} {c : Addr} {o : Obj} {f : Obj → List (Addr × Obj)} {Q : Unit → Shared → Prop} (hc : env.cells.lookup x = some c) (S : St s₀ B L m own s) (hf : At c o own f) (hv : CO v₀ o)
    (h : ∀ s' o', CO (some v) o' → St s₀ B L m (f o') s' → Q () s') (hk : env.scope.kind = .function := by rfl) (hl : env.kindOf x = some .cell := by rfl) : wpAny (model prog w) A (storeName env x v) Q E s :=
  csto S hf hv h hc hk hl
theorem assCell {x : Str} {p : Pos} {v : Value} {v₀ : Option Value} {c : Addr} {o : Obj} {f : Obj → List (Addr × Obj)} {Q : Unit → Shared → Prop} (hc : env.cells.lookup x = some c) (S : St s₀ B L m own s) (hf : At c o own f) (hv : CO v₀ o)
    (h : ∀ s' o', CO (some v) o' → St s₀ B L m (f o') s' → Q () s') (hk : env.scope.kind = .function := by rfl) (hl : env.kindOf x = some .cell := by rfl) : wpAny (model prog w) A (assign (.Name x p) env v) Q E s :=
  wpAny_assign_Name (csto S hf hv h hc hk hl)
theorem CO.nt {v : Option Value} {o : Obj} (h : CO v o) : NT o := NT.cell h
theorem St.reown {f : Addr} {o : Obj} (S : St s₀ B L m own s) (hf : B.get? f = some o) : St s₀ (frees B [f]) L m ((f, o) :: own) s := by
  have hne : f ≠ L := by rintro rfl; rw [S.noL] at hf; cases hf
  refine ⟨S.gens, S.os, S.ns, fun b o' e => S.keep b o' (frees_some e).2, frees_none S.noL, fun p hp => ?_, ?_⟩
  · rcases List.mem_cons.mp hp with rfl | hp
    · exact ⟨S.keep _ _ hf, hne, frees_mem (by simp)⟩
    · exact ⟨(S.ow p hp).1, (S.ow p hp).2.1, frees_none (S.ow p hp).2.2⟩
  · rw [List.map_cons]
    refine List.nodup_cons.mpr ⟨fun hm => ?_, S.nd⟩
    obtain ⟨p, hp, e⟩ := List.mem_map.mp hm
    have := (S.ow p hp).2.2
    rw [e, hf] at this; cases this
theorem Ext.frees {h h' : Heap} {f : Addr} (e : Ext h h') (hn : h.get? f = none) : Ext h (Mine.frees h' [f]) := fun b o x => by
  rw [frees_not]
  · exact e b o x
  · rintro hm
    rw [List.mem_singleton.mp hm, hn] at x; cases x
theorem eqNil {a b : Addr} {oa ob : Obj} {vs : List Value} {ds : List PyData} {k : Nat} {fa fb : Obj → List (Addr × Obj)} {Q : Value → Shared → Prop} (R : Room prog k A) (S : St s₀ B L m own s) (ha : At a oa own fa) (hb : At b ob own fb) (hla : LO vs oa) (hlb : LO [] ob) (r : TRs s.heap vs ds) (hc : PyData.canLayAll0 ds = true) (h : Q (.bool ds.isEmpty) s) :
    wpAny (model prog w) A (compareOp .Eq (.ref a) (.ref b)) Q E s := by
  obtain ⟨ca, na, da⟩ := hla
  obtain ⟨cb, nb, db⟩ := hlb
  have r1 : Reads s.heap (.ref a) (.list ds) [a] := Reads.list (S.at ha).1 ca da (by simpa using r)
  have r2 : Reads s.heap (.ref b) (.list []) [b] := Reads.list (S.at hb).1 cb db (by simpa using ReadsAll.nil)
  have e : PyData.eqv (.list ds) (.list []) = ds.isEmpty := by cases ds <;> simp [PyData.eqv, PyData.eqvAll]
  refine SeqAt.compareEq_reads r1 r2 ?_ ?_ ?_ (by rw [e]; exact h)
  · simpa [PyData.canLay0] using hc
  · simp [PyData.canLay0, PyData.canLayAll0]
  · have h1 : min (PyData.depth (.list ds)) (PyData.depth (.list [])) ≤ PyData.depth (.list []) := Nat.min_le_right _ _
    have h2 : PyData.depth (.list []) ≤ 1 := by simp [PyData.depth, PyData.depthAll]
    exact R.ult (Nat.le_trans h1 (Nat.le_trans h2 (by decide)))
theorem fillD_nodup {ps : List (Str × Value)} (nd : (ps.map (·.1)).Nodup) : fillD ps = ps := by
  have key : ∀ (ps acc : List (Str × Value)), ((acc ++ ps).map (·.1)).Nodup → ps.foldl (fun kvs p => stored kvs p.1 p.2) acc = acc ++ ps := by
    intro ps
    induction ps with
    | nil => intro acc _; simp
    | cons p r ih =>
      intro acc nd
      have hn : valueAt acc p.1 = none := by
        unfold valueAt
        rw [Option.map_eq_none_iff, List.find?_eq_none]
        intro x hx
        rw [List.map_append, List.nodup_append] at nd
        have := nd.2.2 x.1 (List.mem_map.mpr ⟨x, hx, rfl⟩) p.1 (by simp)
        simpa using this
      rw [List.foldl_cons, stored_new hn, ih _ (by simpa using nd)]
      simp
  exact key ps [] (by simpa using nd)

theorem St.settle2 {p q : Addr × Obj} (S : St s₀ B L m (p :: q :: own) s) (np : NT p.2) (nt : ∀ p ∈ own, NT p.2) :
    Settled s₀ B L m q (p :: own) s :=
  (S.perm (List.Perm.swap _ _ _)).settle1 (ntC np nt)

theorem joinB {c : Bool} {α : Type} {e₁ e₂ : Sem α} {Q : α → Shared → Prop} (S : St s₀ B L m own s) (P : α → Heap → List (Addr × Obj) → Prop) (h1 : c = true → wpAny (model prog w) A e₁ (fun v s' => E2 fun B' own' => A3 (Ext B B') (P v B' own') (St s₀ B' L m own' s')) E s)
    (h2 : c = false → wpAny (model prog w) A e₂ (fun v s' => E2 fun B' own' => A3 (Ext B B') (P v B' own') (St s₀ B' L m own' s')) E s) (h : ∀ v s' B' own', Ext B B' → P v B' own' → St s₀ B' L m own' s' → Q v s') :
    if c = true then wpAny (model prog w) A e₁ Q E s else wpAny (model prog w) A e₂ Q E s :=
  joinIf _ h1 h2 fun v s' ⟨B', own', he, hp, S'⟩ => h v s' B' own' he hp S'
end
end Mine
end
section
namespace Mine
section
variable {prog : Program} {w : World} {A : Around} {E : Value → Shared → Prop} {s s₀ s' : Shared} {B B₀ : Heap} {L : Addr} {m : Str → Option Value} {own own' : List (Addr × Obj)} {env : Env}
theorem applied2 {sl : Addr} {u : Tok} {Q : Int × Int × Nat → Shared → Prop} (hs : s.heap.IsSliceOf sl .none (.int 2 u) .none) (h : Q (0, 1, 2) s) :
    wpAny (model prog w) A (Builtin.Slice.sliceApplied (.ref sl) (pure (5 : Int))) Q E s := by
  obtain ⟨os, hos, hcs, hds⟩ := id hs
  unfold Builtin.Slice.sliceApplied Builtin.Slice.sliceFields
  refine wpAny_bind (wpAny_bind (wpAny_field hos hds (x := .none) rfl (wpAny_bind (wpAny_field hos hds (x := .int 2 u) rfl (wpAny_bind (wpAny_field hos hds (x := .none) rfl (wpAny_pure ?_)))))))
  refine wpAny_bind (slicePart_none ?_)
  show wpAny _ _ (if ((1 : Int) == 0) = true then _ else _) _ _ s
  rw [if_neg (by decide)]
  refine wpAny_bind (slicePart_none (wpAny_bind (slicePart_int (wpAny_bind (wpAny_pure ?_)))))
  exact wpAny_pure h
theorem getTwo {t sl : Addr} {a b c d e : Value} {u : Tok} {Q : Value → Shared → Prop} (ht : IsTup s.heap t (List.toArray [a, b, c, d, e])) (hs : s.heap.IsSliceOf sl .none (.int 2 u) .none)
    (h : Q (.ref s.heap.objs.size) { s with heap := s.heap.push { cls := .type "tuple", data := .seq (List.toArray [a, b]) } }) : wpAny (model prog w) A (getItem (.ref t) (.ref sl)) Q E s := by
  obtain ⟨os, hos, hcs, hds⟩ := id hs
  have hTs : s.TypeIs (.ref sl) "slice" := ⟨os, hos, hcs⟩
  have hdrop : sizeOk (.seq (List.toArray [a, b])) := by
    show (List.toArray [a, b]).size ≤ sizeLine
    rw [sizeLine_eq]; simp
  unfold getItem
  try with_reducible refine wpAny_holding ?_
  first | refine wpAny_bind (wpAny_pure ?_) | skip
  refine wpAny_bind (wpAny_sequenceKey ht.typeIs (by decide) ?_)
  refine wpAny_bind (wpAny_callSpecial?_slot (name := Str.ofString "__getitem__") ht.typeIs slot_tuple_getitem
    (wpAny_call_entry slot_tuple_getitem ht.typeIs entry_tuple_getitem ?_ (args_tuple_getitem _ _)))
  show wpAny _ _ (Builtin.Tuple.tupleItemsOf (.ref t) >>= _) _ _ s
  refine wpAny_bind (tupleItemsOf_ ht ?_)
  refine wpAny_bind (wpAny_typeOf hTs ?_)
  rw [if_pos (by decide)]
  refine wpAny_bind (applied2 hs ?_)
  show wpAny _ _ (if ((0 : Int) == 0 && (1 : Int) == 1 && (2 : Nat) == 5) = true then _ else _) _ _ s
  rw [if_neg (by decide)]
  first
    | exact wpAny_bind (m := Builtin.Tuple.tupleExact _) (wpAny_newObj_type (wpAny_pure ⟨_, rfl, wpAny_pure h⟩) hdrop)
    | exact wpAny_bind (m := Builtin.Tuple.tupleExact _) (wpAny_newObj_type (wpAny_bind (wpAny_pure (wpAny_pure ⟨_, rfl, wpAny_pure h⟩))) hdrop)
    | exact wpAny_bind (wpAny_bind (m := Builtin.Tuple.tupleExact _) (wpAny_newObj_type (wpAny_pure (wpAny_pure ⟨_, rfl, wpAny_pure h⟩)) hdrop))
    | exact wpAny_bind (wpAny_bind (m := Builtin.Tuple.tupleExact _) (wpAny_newObj_type (wpAny_pure ⟨_, rfl, wpAny_pure h⟩) hdrop))
theorem tslice2 {value slice : PySem.Expr} {t : Addr} {a b c d e : Value} {u : Tok} {x : Addr} {s₁ : Shared} {Q : Value → Shared → Prop} (S : St s₀ B L m own s) (ht : IsTup s.heap t (List.toArray [a, b, c, d, e]))
    (e₁ : s₁ = { s with heap := s.heap.push { cls := .type "slice", data := .fields #[.none, .int 2 u, .none] } }) (ha : x = s.heap.objs.size)
    (h : ∀ s' y, St s₀ B L m ((y, { cls := .type "tuple", data := .seq (List.toArray [a, b]) }) :: own) s' → Q (.ref y) s')
    (hs : ∀ x, subscripted slice false (.ref t) (.ref x) = operate [.ref x, .ref t] (getItem (.ref t) (.ref x))) (hg : ∀ r, letTemporaryGo value (.ref t) r = pure () := by intro _; with_unfolding_all rfl) :
    wpAny (model prog w) A (subscriptTail value slice (.ref t) (.ref x)) Q E s₁ := by
  subst e₁ ha
  have S₁ := S.push (t := s.toks) { cls := .type "slice", data := .fields #[.none, .int 2 u, .none] }
  have ht' : IsTup (s.heap.push { cls := .type "slice", data := .fields #[.none, .int 2 u, .none] }) t (List.toArray [a, b, c, d, e]) := ht.keeps fun _ _ e => Heap.get?_push_of_some _ e
  refine subscriptTail_ops (s := { s with heap := s.heap.push { cls := .type "slice", data := .fields #[.none, .int 2 u, .none] } }) ht'.typeIs slot_tuple_getitem.lookup
    (getTwo ht' (Heap.IsSliceOf.new ..) ?_) (hs _) hg
  refine h _ _ ?_
  have S₂ := S₁.push (t := s.toks) { cls := .type "tuple", data := .seq (List.toArray [a, b]) }
  exact S₂.sub (.cons_cons _ (.cons _ (.refl _)))
theorem eqData {a b : Value} {da db : PyData} {k : Nat} {Q : Value → Shared → Prop} (R : Room prog k A) (ra : TR s.heap a da) (rb : TR s.heap b db) (ha : da.canLay0 = true) (hb : db.canLay0 = true) (hd : da.depth ≤ 20) (h : Q (.bool (PyData.eqv da db)) s) :
    wpAny (model prog w) A (compareOp .Eq a b) Q E s := by
  refine SeqAt.compareEq_reads ra rb ha hb ?_ h
  exact R.ult (Nat.le_trans (Nat.min_le_left ..) (Nat.le_trans hd (by decide)))
theorem neData {a b : Value} {d : PyData} {k : Nat} {Q : Value → Shared → Prop} (R : Room prog k A) (ra : TR s.heap a d) (rb : TR s.heap b d) (ha : d.canLay0 = true) (hd : d.depth ≤ 20) (h : Q (.bool false) s) :
    wpAny (model prog w) A (compareOp .NotEq a b) Q E s := by
  refine SeqAt.compareNe_reads ra rb ha ha ?_ (by rw [SeqAt.eqv_refl _ ha]; exact h)
  exact R.ult (Nat.le_trans (Nat.min_le_left ..) (Nat.le_trans hd (by decide)))
theorem eqv_pair (a b c d : Str) : PyData.eqv (.tuple [.str a, .str b]) (.tuple [.str c, .str d]) = (a == c && b == d) := by simp [PyData.eqv, PyData.eqvAll]
theorem neDict0 {a b : Addr} {k : Nat} {Q : Value → Shared → Prop} (R : Room prog k A) (da : DS prog w s.heap a []) (db : DS prog w s.heap b []) (h : Q (.bool false) s) :
    wpAny (model prog w) A (compareOp .NotEq (.ref a) (.ref b)) Q E s :=
  PySem.W.keq_ne (r := true) da.1 db.1 da.2 db.2 (R.ult (x := 0) (by decide)) (fun _ => .nil) h
theorem St.settleD2 {S₁ : Shared} {m₁ : Str → Option Value} {own₁ : List (Addr × Obj)} {d : Addr} {kvs : List (Str × Value)} (S₀ : St s₀ B L m₁ own₁ S₁) (S : St s₀ B L m own s) (hk : own.map (·.1) = own₁.map (·.1)) (nt : ∀ p ∈ own, NT p.2) (T : DS prog w s.heap d kvs) (f : DS prog w B d kvs ∨ S₁.heap.get? d = none) :
    ∃ B', A3 (Ext B B') (St s₀ B' L m own s) (DS prog w B' d kvs) := by
  rcases f with f | f
  · exact ⟨B, Ext.refl _, S, f⟩
  · obtain ⟨B', hB, S', _, hin⟩ := S.settle (List.Sublist.refl _) nt
    obtain ⟨n, hd⟩ := T
    obtain ⟨o, ho, hx⟩ := Heap.dictOf_iff.mp hd
    refine ⟨B', hB, S', DS.of (hin _ _ ho ?_ ?_) n hx⟩
    · rintro rfl
      obtain ⟨_, _, _, e, _⟩ := S₀.ns
      exact absurd (f.symm.trans e) (by simp)
    · rw [hk]
      intro hm
      obtain ⟨p, hp, e⟩ := List.mem_map.mp hm
      have := (S₀.ow p hp).1
      rw [e] at this
      exact absurd (f.symm.trans this) (by simp)
end
end Mine
end
namespace Mine
theorem words_1 : True := by
  k_with "fit" => first | assumption | exact Nat.le_of_ble_eq_true rfl | (refine Nat.le_trans (Nat.le_of_eq (by assumption)) ?_; walk_at "fit") | (refine Nat.le_trans (Nat.min_le_right _ _) ?_; walk_at "fit") | (refine Nat.le_trans (by assumption) ?_; walk_at "fit") | (refine Nat.le_trans (Nat.le_of_lt (by assumption)) ?_; walk_at "fit")
  k_with "lk" => first | exact put_eq _ _ _ | assumption | exact rfl
  k_with "ar" => first | decide | assumption | exact Int.natCast_nonneg _ | exact Int.ofNat_lt.mpr (by assumption) | walk_at "fit" | omega
  k_with "subs" => first | exact subsC | exact subsN | exact subsK
  k_with "list" => first | exact LO.isList (by assumption) (St.at (by assumption) (by walk_at "at")).1 | assumption | exact Heap.IsList.at (by assumption) (fun o => St.keep (by assumption) _ o)
  k_with "at" => first | exact At.head | exact At.tail At.head | exact At.tail (At.tail At.head) | exact At.tail (At.tail (At.tail At.head)) | exact At.tail (At.tail (At.tail (At.tail At.head)))
  k_with "tup" => first | assumption | exact IsTup.keeps (by assumption) (St.keep (by assumption))
  k_with "s" => first
      | ((with_reducible show wpAny _ _ (execs (_ :: _) _) _ _ _); refine opq ?_; intro _ _; refine wpAny_execs_cons (opq ?_); intro _ _)
      | ((with_reducible show wpAny _ _ (execs [] _) _ _ _); refine wpAny_execs_nil ?_)
      | ((with_reducible show wpAny _ _ (exec (Stmt.If _ _ _ _) _) _ _ _); refine wpAny_If ?_)
      | ((with_reducible show wpAny _ _ (exec (Stmt.Assign [Expr.Name _ _] _ _) _) _ _ _); refine wpAny_Assign_Name ?_)
      | ((with_reducible show wpAny _ _ (exec (Stmt.Assign [Expr.Subscript _ _ _] _ _) _) _ _ _); refine wpAny_Assign_Subscript ?_)
      | ((with_reducible show wpAny _ _ (exec (Stmt.For _ _ _ _ _) _) _ _ _); refine wpAny_For ?_)
      | ((with_reducible show wpAny _ _ (exec (Stmt.Return (some _) _) _) _ _ _); refine wpAny_Return_some ?_)
      | ((with_reducible show wpAny _ _ (exec (Stmt.Expr _ _) _) _ _ _); refine exprS ?_)
      | ((with_reducible show wpAny _ _ (isTrue (Expr.Compare _ [_] _ _) _ _) _ _ _); refine wpAny_isTrue_Compare1 ?_)
      | ((with_reducible show wpAny _ _ (truthy (Value.bool _)) _ _ _); refine wpAny_truthy_bool ?_)
      | ((with_reducible show wpAny _ _ (eval (Expr.Name _ _) _) _ _ _); first
          | refine Mine.nm (by assumption) (by walk_at "lk") ?_
          | refine gnm (by assumption) (by assumption) (by k_is) ?_
          | refine bnm (by assumption) (by assumption) (by k_is) (by boot_by_name) (by decide) ?_)
      | ((with_reducible show wpAny _ _ (storeName _ _ _) _ _ _); refine sto (by assumption) ?_; intro _ _)
      | ((with_reducible show wpAny _ _ (eval (Expr.Constant (Const.int _) _ _) _) _ _ _); refine kint (by assumption) ?_; intro _ _ _)
      | ((with_reducible show wpAny _ _ (eval (Expr.Constant (Const.str _) _ _) _) _ _ _); refine kstr (by assumption) ?_; intro _ _ _)
      | ((with_reducible show wpAny _ _ (eval (Expr.Constant Const.none _ _) _) _ _ _); refine wpAny_Constant_none ?_)
      | ((with_reducible show wpAny _ _ (eval (Expr.Constant (Const.bool _) _ _) _) _ _ _); refine wpAny_Constant_bool ?_)
      | ((with_reducible show wpAny _ _ (eval (Expr.Compare _ [_] _ _) _) _ _ _); refine wpAny_Compare1 ?_)
      | ((with_reducible show wpAny _ _ (eval (Expr.BinOp _ _ _ _) _) _ _ _); refine wpAny_BinOp ?_)
      | ((with_reducible show wpAny _ _ (eval (Expr.UnaryOp _ _ _) _) _ _ _); refine wpAny_UnaryOp ?_)
      | ((with_reducible show wpAny _ _ (eval (Expr.IfExp _ _ _ _) _) _ _ _); refine wpAny_IfExp ?_)
      | ((with_reducible show wpAny _ _ (eval (Expr.Subscript _ _ _) _) _ _ _); refine Subscript_ ?_)
      | ((with_reducible show wpAny _ _ (eval (Expr.Call (Expr.Attribute _ _ _) _ _ _) _) _ _ _); refine MethodCall_ ?_)
      | ((with_reducible show wpAny _ _ (eval (Expr.Call _ _ _ _) _) _ _ _); refine Call_ ?_)
      | ((with_reducible show wpAny _ _ (eval (Expr.Attribute _ _ _) _) _ _ _); refine Attribute_any_ ?_)
      | ((with_reducible show wpAny _ _ (eval (Expr.Tuple _ _ _) _) _ _ _); refine tupN ?_)
      | ((with_reducible show wpAny _ _ (eval (Expr.List _ _) _) _ _ _); refine lstN ?_)
      | ((with_reducible show wpAny _ _ (spliced (backTo _ (starEach [Expr.Name _ _] _))) _ _ _); refine argN1 (by assumption) (by walk_at "lk") ?_)
      | ((with_reducible show wpAny _ _ (spliced (backTo _ (starEach (Expr.Name _ _ :: _) _))) _ _ _); refine argN (by assumption) (by walk_at "lk") ?_)
      | ((with_reducible show wpAny _ _ (spliced (backTo _ (starEach [_] _))) _ _ _); refine args_one ?_)
      | ((with_reducible show wpAny _ _ (spliced (backTo _ (starEach (_ :: _) _))) _ _ _); refine args_cons ?_)
      | ((with_reducible show wpAny _ _ (spliced (backTo _ (starEach [] _))) _ _ _); refine args_nil ?_)
      | ((with_reducible show wpAny _ _ (callWith _ (Value.type _) [] (backTo _ (starEach (_ :: _) _)) []) _ _ _); refine PyProof.Rows.callWith_type1 ?_)
      | ((with_reducible show wpAny _ _ (callWith _ (Value.type _) [] (backTo _ (starEach [] _)) []) _ _ _); refine PyProof.Rows.callWith_type0 ?_)
      | ((with_reducible show wpAny _ _ (callWith _ (Value.builtin _) _ (backTo _ (starEach (_ :: _) _)) []) _ _ _); first | refine PyProof.Rows.callWith_builtin1 ?_ | refine PyProof.Rows.callWith_method1 ?_)
      | ((with_reducible show wpAny _ _ (callWith _ (Value.builtin _) _ (backTo _ (starEach [] _)) []) _ _ _); refine PyProof.Rows.callWith_method0 ?_)
      | ((with_reducible show wpAny _ _ (callWith _ (Value.ref _) _ (backTo _ (starEach (_ :: _) _)) []) _ _ _); refine cw (by k_is) ?_)
      | ((with_reducible show wpAny _ _ (callWith _ (Value.ref _) _ (backTo _ (starEach [] _)) []) _ _ _); refine cw0 (by assumption) (by assumption) (by k_is) ?_)
      | ((with_reducible show wpAny _ _ (binaryOp Operator.Add (Value.int _ _) (Value.int _ _)) _ _ _); refine iadd (by assumption) ?_; intro _ _ _)
      | ((with_reducible show wpAny _ _ (binaryOp Operator.Sub (Value.int _ _) (Value.int _ _)) _ _ _); refine isub (by assumption) ?_; intro _ _ _)
      | ((with_reducible show wpAny _ _ (binaryOp Operator.Mult (Value.int _ _) (Value.int _ _)) _ _ _); refine imul (by assumption) (by first | exact IntMulOk.of_right (by decide +kernel) | exact IntMulOk.of_left (by decide +kernel) | mul_fits) ?_; intro _ _ _)
      | ((with_reducible show wpAny _ _ (binaryOp Operator.Mod (Value.int _ _) (Value.int _ _)) _ _ _); refine imod (by assumption) (by walk_at "ar") ?_; intro _ _ _)
      | ((with_reducible show wpAny _ _ (binaryOp Operator.FloorDiv (Value.int _ _) (Value.int _ _)) _ _ _); refine idiv (by assumption) (by assumption) (by assumption) (by walk_at "ar") ?_; intro _ _ _)
      | ((with_reducible show wpAny _ _ (compareOp CmpOp.Gt (Value.int _ _) (Value.int _ _)) _ _ _); refine igt ?_)
      | ((with_reducible show wpAny _ _ (compareOp CmpOp.Lt (Value.int _ _) (Value.int _ _)) _ _ _); refine ilt ?_)
      | ((with_reducible show wpAny _ _ (compareOp CmpOp.GtE (Value.int _ _) (Value.int _ _)) _ _ _); refine ige ?_)
      | ((with_reducible show wpAny _ _ (compareOp CmpOp.Eq (Value.int _ _) (Value.int _ _)) _ _ _); refine ieq ?_)
      | ((with_reducible show wpAny _ _ (compareOp CmpOp.Is _ Value.none) _ _ _); refine is_none ?_)
      | ((with_reducible show wpAny _ _ (compareOp CmpOp.IsNot _ Value.none) _ _ _); refine isNot_none ?_)
      | ((with_reducible show wpAny _ _ (compareOp CmpOp.Eq (Value.str _ _) (Value.str _ _)) _ _ _); refine PyProof.Rows.eq_str ?_)
      | ((with_reducible show wpAny _ _ (compareOp CmpOp.NotEq (Value.str _ _) (Value.str _ _)) _ _ _); refine PyProof.Rows.ne_str ?_)
      | ((with_reducible show wpAny _ _ (subscriptTail _ (Expr.Slice (some _) (some _) none _) (Value.str _ _) (Value.ref _)) _ _ _); refine sslice (by assumption) (by first | walk_at "fit" | omega) rfl rfl ?_ (fun a => subsS a); intro _ _ _)
      | ((with_reducible show wpAny _ _ (subscriptTail _ _ (Value.str _ _) (Value.int _ _)) _ _ _); refine sitem (by assumption) (by walk_at "ar") (by walk_at "ar") (by walk_at "ar") (by assumption) ?_ (by walk_at "subs"); intro _ _ _)
      | ((with_reducible show wpAny _ _ (subscriptTail _ _ (Value.ref _) (Value.int _ _)) _ _ _); first
          | refine litem (by walk_at "list") (by walk_at "ar") (by walk_at "ar") (by first | rfl | assumption) ?_ (by walk_at "subs")
          | refine titem (by walk_at "tup") (by walk_at "ar") (by walk_at "ar") (by first | rfl | assumption) ?_ (by walk_at "subs"))
      | ((with_reducible show wpAny _ _ (call (Value.type "int") [Value.int _ _]) _ _ _); refine intI ?_)
      | ((with_reducible show wpAny _ _ (call (Value.type "int") [Value.bool _]) _ _ _); refine intB (by assumption) ?_; intro _ _ _)
      | ((with_reducible show wpAny _ _ (setItem (Value.ref _) (Value.int _ _) _) _ _ _); refine lset (by assumption) (by walk_at "at") (by assumption) (by walk_at "ar") (by walk_at "ar") (by simp) ?_; intro _ _ _ _)
      | ((with_reducible show wpAny _ _ (call (Value.builtin "len") [Value.ref _]) _ _ _); refine llen (by assumption) (by walk_at "list") (by first | decide | walk_at "fit" | omega) ?_; intro _ _ _)
      | ((with_reducible show wpAny _ _ (call (Value.builtin "len") [Value.str _ _]) _ _ _); refine slen (by assumption) (by first | decide | walk_at "fit" | omega) ?_; intro _ _ _)
      | ((with_reducible show wpAny _ _ (isTrue (Expr.BoolOp _ _ _) _ _) _ _ _); refine wpAny_isTrue_BoolOp ?_)
      | ((with_reducible show wpAny _ _ (allTrue BoolOp.Or (_ :: _) _) _ _ _); refine wpAny_allTrue_Or_cons ?_)
      | ((with_reducible show wpAny _ _ (allTrue BoolOp.And (_ :: _) _) _ _ _); refine wpAny_allTrue_And_cons ?_)
      | ((with_reducible show wpAny _ _ (allTrue BoolOp.Or [] _) _ _ _); refine wpAny_allTrue_Or_nil ?_)
      | ((with_reducible show wpAny _ _ (allTrue BoolOp.And [] _) _ _ _); refine wpAny_allTrue_And_nil ?_)
      | ((with_reducible show wpAny _ _ (isTrue (Expr.Call _ _ _ _) _ _) _ _ _); refine wpAny_isTrue_value ?_)
      | ((with_reducible show wpAny _ _ (eval (Expr.BoolOp BoolOp.And [_, _] _) _) _ _ _); refine wpAny_And2 ?_)
      | ((with_reducible show wpAny _ _ (compareOp CmpOp.In (Value.str _ _) (Value.str _ _)) _ _ _); refine in_str ?_)
      | ((with_reducible show wpAny _ _ (getMethod (Value.ref _) _ _) _ _ _); refine gmApp (by assumption) (by walk_at "at") (by assumption) ?_)
      | ((with_reducible show wpAny _ _ (call (Value.builtin "list.append") _) _ _ _); refine lappX (by assumption) (by walk_at "at") (by assumption) (by first | walk_at "fit" | omega | (simp; omega)) ?_; intro _ _ _ _)
      | ((with_reducible show wpAny _ _ (eval (Expr.Slice _ _ _ _) _) _ _ _); refine wpAny_Slice ?_)
      | ((with_reducible show wpAny _ _ (evalPart (some _) _) _ _ _); refine wpAny_evalPart_some ?_)
      | ((with_reducible show wpAny _ _ (evalPart none _) _ _ _); refine wpAny_evalPart_none ?_)
      | ((with_reducible show wpAny _ _ (getMethod (Value.str _ _) _ _) _ _ _); first | with_reducible refine GM.join ?_ | with_reducible refine GM.split ?_ | with_reducible refine GM.replace ?_)
      | ((with_reducible show wpAny _ _ (assignInOrder [] []) _ _ _); refine wpAny_assignInOrder_none ?_)
      | ((with_reducible show wpAny _ _ (assignInOrder (_ :: _) (_ :: _)) _ _ _); refine bindS (by assumption) ?_; intro _ _)
      | (with_reducible refine useK (by assumption) ?_)
      | (with_reducible refine iteF ?_)
      | (with_reducible refine iteT ?_)
      | (with_reducible refine iteTr ?_)
      | (with_reducible refine iteFa ?_)
      | ((with_reducible show wpAny _ _ (call (Value.builtin "str.join") _) _ _ _); refine sjoin (by assumption) (by walk_at "list") (by assumption) (by decide) (by walk_at "joinb") ?_; intro _ _ _)
      | ((with_reducible show Frag.In _ _ ∧ _); refine ⟨(Gl.ext (by assumption) (St.keep (by assumption))).K, ?_⟩; (try dsimp only [List.nil_append, List.cons_append]))
      | ((with_reducible show TupD _ _ _); refine TupD.mk (by simp) (by assumption) ?_; intro _ _ _ _)
      | ((with_reducible show LstD _ _ _); refine LstD.mk (by simp) (by assumption) ?_; intro _ _ _ _)
  k_with "w" => repeat walk_at "s"
  k_with "if" => ((with_reducible refine split_bool ?_ ?_) <;> (intro hc; (try simp only [decide_eq_true_eq, decide_eq_false_iff_not, beq_iff_eq, bne_iff_ne, beq_eq_false_iff_ne, bne_eq_false_iff_eq, Bool.not_eq_true', Bool.not_eq_false'] at hc)))
  k_with "call" => ((with_reducible show wpAny _ _ (call (Value.ref _) _) _ _ _))
  k_with "sw" => (refine SwapD.mk (St.at (by assumption) At.head).1 rfl rfl rfl (by assumption) ?_; intro _ _; (simp only [List.reverse_cons, List.reverse_nil, List.nil_append, List.cons_append, List.map_cons, List.map_nil]))
  k_with "joinb" => first | assumption | decide
  k_with "ent" => (refine enter (X := []) (own := []) (args := ⟨_, []⟩) (binds := _) (by assumption) (by assumption) rfl (by simp) (by simp) (by k_is) (by k_is) (by rfl) (locs rfl) (by decide) (by rfl) (by rfl) (by rfl) ?_)
  trivial
section
section
variable {prog : Program} {w : World} {A : Around} {E : Value → Shared → Prop} {s s₀ : Shared} {B : Heap} {L : Addr} {m : Str → Option Value} {own : List (Addr × Obj)} {env : Env}

inductive Pool (o : Obj) : Prop where
  | mk (a b : Int) (ta tb : Tok) (h1 : LO [.int a ta, .int b tb] o) (h2 : 0 ≤ a) (h3 : 0 ≤ b) (h4 : b < 2147483647) : Pool o

theorem mod_lo {a b : Int} (h : 0 < b) : 0 ≤ a.fmod b := by rw [Int.fmod_eq_emod_of_nonneg _ (Int.le_of_lt h)]; exact Int.emod_nonneg _ (Int.ne_of_gt h)
theorem mod_hi {a b : Int} (h : 0 < b) : a.fmod b < b := by rw [Int.fmod_eq_emod_of_nonneg _ (Int.le_of_lt h)]; exact Int.emod_lt_of_pos _ h
theorem div_lo {a b : Int} (ha : 0 ≤ a) (h : 0 < b) : 0 ≤ a.fdiv b := by rw [Int.fdiv_eq_ediv_of_nonneg _ (Int.le_of_lt h)]; exact Int.ediv_nonneg ha (Int.le_of_lt h)

theorem take_ok {k : Nat} {src : Addr} {o : Obj} {top : Int} {tt : Tok} {Q : Value → Shared → Prop} (R : Room prog (k + 1) A) (G : Gl w (frees s.heap [src])) (ho : s.heap.get? src = some o) (hp : Pool o) (ht : 0 < top ∧ top ≤ 1000)
  (h : ∀ s' r t o', 0 ≤ r → r < top → Pool o' → s'.heap.get? src = some o' → Done [src] s s' → Q (.int r t) s') :
  wpAny (model prog w) A (call (.ref 210) [.ref src, .int top tt]) Q E s := by
  obtain ⟨a, b, ta, tb, hlo, ha, hb, hb'⟩ := hp
  refine enter (own := [(src, o)]) (args := ⟨[.ref src, .int top tt], []⟩) (binds := [(Str.ofString "source", .ref src), (Str.ofString "top", .int top tt)]) R G rfl (ow1 ho) nd1 (by k_is) (by k_is) (by rfl) (locs rfl) (by decide) (by rfl) (by rfl) (by rfl) ?_
  intro L A' s' R' S
  have htn : top ≠ 0 := Int.ne_of_gt ht.1
  walk_at "w"
  walk_at "if"
  · walk_at "w"
    rename_i s₅ S₅
    exact h _ _ _ _ (mod_lo ht.1) (mod_hi ht.1) ⟨_, _, _, _, ‹_›, div_lo ha ht.1, hb, hb'⟩ (St.at ‹_› .head).1 (St.done ‹_›)
  · walk_at "w"
    have f1 : 0 ≤ (b * 39373 + 7).fmod 2147483647 := mod_lo (by decide)
    have f2 : (b * 39373 + 7).fmod 2147483647 < 2147483647 := mod_hi (by decide)
    exact h _ _ _ _ (mod_lo ht.1) (mod_hi ht.1) ⟨_, _, _, _, ‹_›, ha, f1, f2⟩ (St.at ‹_› .head).1 (St.done ‹_›)
theorem one_ok {k : Nat} {src l : Addr} {o : Obj} {vs : List Value} {Q : Value → Shared → Prop} (R : Room prog (k + 2) A) (G : Gl w (frees s.heap [src])) (ho : s.heap.get? src = some o) (hp : Pool o) (hl : (frees s.heap [src]).IsList l vs.toArray) (hv : 0 < vs.length ∧ vs.length ≤ 1000)
  (h : ∀ s' v o', v ∈ vs → Pool o' → s'.heap.get? src = some o' → Done [src] s s' → Q v s') :
  wpAny (model prog w) A (call (.ref 217) [.ref src, .ref l]) Q E s := by
  refine enter (own := [(src, o)]) (args := ⟨[.ref src, .ref l], []⟩) (binds := [(Str.ofString "source", .ref src), (Str.ofString "things", .ref l)]) R G rfl (ow1 ho) nd1 (by k_is) (by k_is) (by rfl) (locs rfl) (by decide) (by rfl) (by rfl) (by rfl) ?_
  intro L A' s' R' S
  have hv2 := hv.2
  walk_at "w"
  refine take_ok (k := k) (R'.le (Nat.le_refl _)) (St.glX ‹_› G mem1) (St.at ‹_› .head).1 hp ⟨Int.ofNat_lt.mpr hv.1, Int.ofNat_le.mpr hv2⟩ ?_
  intro s₂ r t o' h0 h1 hp' ho' D
  have S₂ := St.callAt ‹_› At.head D ho'
  have hr : r.toNat < vs.length := (Int.toNat_lt h0).mpr h1
  have h2 : r < 2 ^ 63 := Int.lt_of_lt_of_le h1 (Int.le_trans (Int.ofNat_le.mpr hv2) (by decide))
  have hx : vs[r.toNat]? = some (vs[r.toNat]) := List.getElem?_eq_getElem hr
  walk_at "w"
  exact h _ _ _ (List.getElem_mem hr) hp' ho' (St.done ‹_›)
end
end
section
section
variable {prog : Program} {w : World} {A : Around} {E : Value → Shared → Prop} {s s₀ : Shared} {B : Heap} {L : Addr} {m : Str → Option Value} {own : List (Addr × Obj)} {env : Env}

noncomputable def spc (c : Nat) : Bool := c == 32 || c == 9 || c == 10 || c == 13
theorem spc_in : ∀ c < 128, (!(Builtin.Str.occurrences (Str.ofString " \t\n\r") ⟨#[c]⟩ 0 (Str.ofString " \t\n\r").length 1).isEmpty) = spc c := by decide +kernel

theorem isSpace_ok {k c : Nat} {t : Tok} {Q : Value → Shared → Prop} (R : Room prog (k + 1) A) (G : Gl w s.heap) (hc : c < 128)
  (h : ∀ s', Done [] s s' → Q (.bool (spc c)) s') :
  wpAny (model prog w) A (call (.ref 28) [.str ⟨#[c]⟩ t]) Q E s := by
  refine enter (X := []) (own := []) (args := ⟨[.str ⟨#[c]⟩ t], []⟩) (binds := [(Str.ofString "sign", .str ⟨#[c]⟩ t)]) R G rfl ow0 .nil (by k_is) (by k_is) (by rfl) (locs rfl) (by decide) (by rfl) (by rfl) (by rfl) ?_
  intro L A' s' R' S
  walk_at "w"
  rw [spc_in c hc]
  walk_at "if"
  · walk_at "w"
    try dsimp only
    have e : (({ cps := #[c] } : Str) != Str.ofString "") = true := by
      rw [show Str.ofString "" = ⟨#[]⟩ from by decide +kernel]
      simp
    rw [e]
    rw [show spc c = true from by assumption] at h
    exact h _ (St.done ‹_›)
  · walk_at "w"
    exact h _ (St.done ‹_›)

noncomputable def spStep (x : Str) (st : List Str × Nat) (i : Nat) : List Str × Nat :=
  if (i == x.length || spc (x.cps.getD i 0)) = true then (if st.2 < i then st.1 ++ [Txt.slice x (some (st.2 : Int)) (some (i : Int))] else st.1, i + 1) else st
noncomputable def spAll (x : Str) (n : Nat) : List Str × Nat := (List.range n).foldl (spStep x) ([], 0)
theorem spAll_succ (x : Str) (n : Nat) : spAll x (n + 1) = spStep x (spAll x n) n := by
  unfold spAll; rw [List.range_succ, List.foldl_append]; rfl
structure Small (x : Str) : Prop where
  len : x.length ≤ 100
  lo : ∀ (i : Nat) (c : Nat), x.cps[i]? = some c → c < 128

theorem words_2 : True := by
  k_with "inner" => (
      walk_at "w"
      walk_at "if"
      · walk_at "w"
        refine TurnEnd.mk (by assumption) (by assumption) ?_
        refine ⟨_, _, _, rfl, (by assumption), ?_, ?_, by walk_at "lk", by walk_at "lk", _, by rw [‹spAll _ (_ + 1) = _›]; walk_at "lk"⟩
        · rw [‹spAll _ (_ + 1) = _›, if_pos (Int.ofNat_lt.mp (by assumption))]; exact strsSnoc (by assumption)
        · rw [List.length_append]; exact Nat.add_le_add_right (by assumption) 1
      · walk_at "w"
        refine TurnEnd.mk (by assumption) (by assumption) ?_
        refine ⟨_, _, _, rfl, (by assumption), ?_, ?_, by walk_at "lk", by walk_at "lk", _, by rw [‹spAll _ (_ + 1) = _›]; walk_at "lk"⟩
        · rw [‹spAll _ (_ + 1) = _›, if_neg (mt Int.ofNat_lt.mpr (by assumption))]; assumption
        · exact Nat.le_succ_of_le (by assumption)
        )
  trivial
theorem spaceSplit_ok {k : Nat} {x : Str} {t : Tok} {Q : Value → Shared → Prop} (R : Room prog (k + 2) A) (G : Gl w s.heap) (hx : Small x)
  (h : ∀ s' a vs, Done [] s s' → s'.heap.IsList a vs.toArray → StrsAre vs (spAll x (x.length + 1)).1 → Q (.ref a) s') :
  wpAny (model prog w) A (call (.ref 35) [.str x t]) Q E s := by
  refine enter (X := []) (own := []) (args := ⟨[.str x t], []⟩) (binds := [(Str.ofString "text", .str x t)]) R G rfl ow0 .nil (by k_is) (by k_is) (by rfl) (locs rfl) (by decide) (by rfl) (by rfl) (by rfl) ?_
  intro L A' s' R' S
  walk_at "w"
  refine exSwap (names := [Str.ofString "found", Str.ofString "begin"]) ‹_› ?_ (by rfl) (by rfl)
  walk_at "w"
  walk_at "sw"
  have S₁ := St.drop ‹_›
  have hl := hx.len
  walk_at "w"
  refine forRange ‹_› (Int.le_add_one (Int.natCast_nonneg _)) (Int.le_trans (Int.add_le_add_right (Int.ofNat_le.mpr hl) 1) (by decide)) (fun I v s Q hq => let_name I v s Q hq) (fun i B m own => E3 fun f o vs => A7 (own = [(f, o)]) (LX vs o) (StrsAre vs (spAll x i).1) (vs.length ≤ i) (m (Str.ofString "text") = some (.str x t)) (m (Str.ofString "found") = some (.ref f)) (∃ bt, m (Str.ofString "begin") = some (.int ((spAll x i).2 : Int) bt))) ‹_› ⟨_, _, [], rfl, ⟨0, rfl⟩, .nil, Nat.le_refl _, rfl, rfl, _, rfl⟩ ?_ ?_
  · intro i ti B' m' own' s₂ p hi hB hx0 hp S₂
    refine hide ?_
    intro Z_ hZ_
    obtain ⟨f, o, vs, rfl, hlo, hst, hlen, hm1, hm2, bt, hm3⟩ := hx0
    refine hZ_ ?_
    clear hZ_ Z_
    refine assName S₂ ?_
    intro s₃ S₃
    have hG : Gl w B' := G.ext hB
    have hi' : i ≤ x.length := Nat.lt_succ_iff.mp (show i < x.length + 1 from hi)
    have inner : (i == x.length || spc (x.cps.getD i 0)) = true → spAll x (i + 1) = (if (spAll x i).2 < i then (spAll x i).1 ++ [Txt.slice x (some ((spAll x i).2 : Int)) (some (i : Int))] else (spAll x i).1, i + 1) := by
      intro e; rw [spAll_succ]; unfold spStep; rw [e, if_pos rfl]
    have outer : (i == x.length || spc (x.cps.getD i 0)) = false → spAll x (i + 1) = spAll x i := by
      intro e; rw [spAll_succ]; unfold spStep; rw [e]; rfl
    walk_at "w"
    walk_at "if"
    · have hE := inner (by have : i = x.length := Int.ofNat_inj.mp (by assumption)
                           simp [this])
      walk_at "inner"
    · have hne : i ≠ x.length := mt (congrArg Int.ofNat) (by assumption)
      have hlt : i < x.length := Nat.lt_of_le_of_ne hi' hne
      have hc : x.cps[((i : Nat) : Int).toNat]? = some (x.cps.getD i 0) := by
        have : i < x.cps.size := hlt
        simp [this]
      walk_at "w"
      refine isSpace_ok (k := k) (by assumption) (hG.ext (St.keep ‹_›)) (hx.lo _ _ hc) ?_
      intro s₅ D
      have S₅ := St.call0 ‹_› D
      walk_at "w"
      walk_at "if"
      · have hE := inner (by rw [‹spc _ = true›, Bool.or_true])
        walk_at "inner"
      · have hE := outer (by rw [‹spc _ = false›, Bool.or_false]; simpa using hne)
        walk_at "w"
        refine TurnEnd.mk (by assumption) hB ?_
        exact ⟨f, _, _, rfl, hlo, by rw [hE]; exact hst, Nat.le_succ_of_le hlen, by walk_at "lk", by walk_at "lk", _, by rw [hE]; walk_at "lk"⟩
  · intro B' m' own' s₂ hB hx0 S₂
    refine hide ?_
    intro Z_ hZ_
    obtain ⟨f, o, vs, rfl, hlo, hst, hlen, hm1, hm2, bt, hm3⟩ := hx0
    refine hZ_ ?_
    clear hZ_ Z_
    have hn : ((x.length : Int) + 1).toNat = x.length + 1 := rfl
    rw [hn] at hst
    walk_at "w"
    exact h _ _ _ (St.done (S₂.rebaseTo hB)) (hlo.lo.isList (S₂.at .head).1) hst
end
end
section
section
variable {prog : Program} {w : World} {A : Around} {E : Value → Shared → Prop} {s s₀ : Shared} {B : Heap} {L : Addr} {m : Str → Option Value} {own : List (Addr × Obj)} {env : Env}

noncomputable def norm (x : Str) : Str := Txt.join (Str.ofString " ") (spAll x (x.length + 1)).1
structure Small2 (x : Str) : Prop extends Small x where
  fit : ((spAll x (x.length + 1)).1.map (·.length)).sum + (spAll x (x.length + 1)).1.length * 64 ≤ 16777216

theorem collapsed_ok {k : Nat} {x : Str} {t : Tok} {Q : Value → Shared → Prop} (R : Room prog (k + 3) A) (G : Gl w s.heap) (hx : Small2 x)
  (h : ∀ s' t, Done [] s s' → Q (.str (norm x) t) s') :
  wpAny (model prog w) A (call (.ref 42) [.str x t]) Q E s := by
  refine enter (X := []) (own := []) (args := ⟨[.str x t], []⟩) (binds := [(Str.ofString "text", .str x t)]) R G rfl ow0 .nil (by k_is) (by k_is) (by rfl) (locs rfl) (by decide) (by rfl) (by rfl) (by rfl) ?_
  intro L A' s' R' S
  walk_at "w"
  refine spaceSplit_ok (k := k) (by assumption) (Gl.ext G (St.keep ‹_›)) hx.toSmall ?_
  intro s₁ a vs D hl hst
  have S₁ := St.call0 ‹_› D
  have hf := hx.fit
  walk_at "w"
  exact h _ _ (St.done ‹_›)

noncomputable def cdata : Str := Str.ofString "CDATA"
noncomputable def normK (kd x : Str) : Str := if kd == cdata then x else norm x
theorem normalised_ok {k : Nat} {kd x : Str} {t u : Tok} {Q : Value → Shared → Prop} (R : Room prog (k + 4) A) (G : Gl w s.heap) (hx : Small2 x)
  (h : ∀ s' t, Done [] s s' → Q (.str (normK kd x) t) s') :
  wpAny (model prog w) A (call (.ref 84) [.str kd u, .str x t]) Q E s := by
  refine enter (X := []) (own := []) (args := ⟨[.str kd u, .str x t], []⟩) (binds := [(Str.ofString "kind", .str kd u), (Str.ofString "value", .str x t)]) R G rfl ow0 .nil (by k_is) (by k_is) (by rfl) (locs rfl) (by decide) (by rfl) (by rfl) (by rfl) ?_
  intro L A' s' R' S
  walk_at "w"
  unfold normK cdata at h
  refine split_bool ?_ ?_ <;> intro hk
  · rw [hk] at h
    walk_at "w"
    exact h _ _ (St.done ‹_›)
  · rw [hk] at h
    walk_at "w"
    refine collapsed_ok (k := k) (by assumption) (Gl.ext G (St.keep ‹_›)) hx ?_
    intro s₁ t D
    have S₁ := St.call0 ‹_› D
    walk_at "w"
    exact h _ _ (St.done ‹_›)
end
end
section
section
variable {prog : Program} {w : World} {A : Around} {E : Value → Shared → Prop} {s s₀ : Shared} {B : Heap} {L : Addr} {m : Str → Option Value} {own : List (Addr × Obj)} {env : Env}

noncomputable def nl : Str := Str.ofString "\n"
noncomputable def tb : Str := Str.ofString "\t"
noncomputable def sp : Str := Str.ofString " "
noncomputable def flat (x : Str) : Str := Txt.replace (Txt.replace x nl sp) tb sp
noncomputable def words (x : Str) : Str := Txt.join sp ((Txt.split (flat x) sp).filter (fun y => y != Str.ofString ""))
structure Small3 (x : Str) : Prop extends Small x where
  l1 : (Txt.replace x nl sp).length ≤ 1000
  l2 : (flat x).length ≤ 1000
  l3 : (Builtin.Str.partsBetween (flat x) (Builtin.Str.occurrences (flat x) sp 0 (flat x).length ((flat x).length + 1)) sp.length).length ≤ 1000
  l4 : (Txt.split (flat x) sp).length ≤ 500
  fit : (((Txt.split (flat x) sp).filter (fun y => y != Str.ofString "")).map (·.length)).sum + ((Txt.split (flat x) sp).filter (fun y => y != Str.ofString "")).length * 64 ≤ 16777216

theorem words_ok {k : Nat} {x : Str} {t : Tok} {Q : Value → Shared → Prop} (R : Room prog (k + 3) A) (G : Gl w s.heap) (hx : Small3 x)
  (h : ∀ s' t, Done [] s s' → Q (.str (words x) t) s') :
  wpAny (model prog w) A (call (.ref 229) [.str x t]) Q E s := by
  refine enterT (X := []) (own := []) (args := ⟨[.str x t], []⟩) (binds := [(Str.ofString "text", .str x t)]) R G rfl ow0 .nil (by k_is) (by k_is) (by rfl) (locs rfl) (by decide) (by rfl) (by rfl) (by rfl) ?_
  intro L A' s' R' S hk
  have hk' : 0 < s'.toks := by rw [hk]; exact Nat.succ_pos _
  iterate 3 walk_at "s"
  refine kstrT ‹_› ?_
  intro s₁ S₁ t₁
  iterate 3 walk_at "s"
  refine compHead (closureFor_none (by decide)) (by rfl) (by decide) ?_
  iterate 7 walk_at "s"
  refine kstrT ‹_› ?_
  intro s₂ S₂ t₂
  walk_at "s"
  refine kstrT ‹_› ?_
  intro s₃ S₃ t₃
  refine srepl S₃ (by rw [t₁]; exact Nat.succ_pos _) (by rw [t₂]; exact Nat.lt_succ_self _) (by decide +kernel) (Nat.le_trans hx.len (by decide)) (by decide +kernel) ?_
  intro s₄ u₄ S₄ t₄
  iterate 3 walk_at "s"
  refine kstrT ‹_› ?_
  intro s₅ S₅ t₅
  walk_at "s"
  refine kstrT ‹_› ?_
  intro s₆ S₆ t₆
  refine srepl S₆ (Nat.lt_of_lt_of_le (by rw [t₃]; exact Nat.succ_pos _) t₄) (by rw [t₅]; exact Nat.lt_succ_self _) (by decide +kernel) hx.l1 (by decide +kernel) ?_
  intro s₇ u₇ S₇ t₇
  walk_at "w"
  have e1 : (sp.length == 0) = false := by decide +kernel
  have S₈ := (‹St _ _ _ _ [] _›)
  refine ssplit (y := sp) S₈ e1 hx.l2 hx.l3 ?_
  intro s₉ B' a vs hst hB hl S₉
  have hln : vs.length = (Txt.split (flat x) sp).length := strsLen hst
  refine compList ‹_› hl (by have := hx.l4; walk_at "fit") (fun I i v s Q hh hv hq => let_name I v s Q hq) (by decide) (by rfl)
    (fun i acc B own => own = [] ∧ StrsAre acc (((Txt.split (flat x) sp).take i).filter (fun y => y != Str.ofString ""))) S₉ ⟨rfl, by rw [List.take_zero]; exact .nil⟩ ?_ ?_
  · intro C i v acc B'' mc own s p d q hv hB'' hx0 hal hd hq hp1 hq1 S
    refine hide ?_
    intro Z_ hZ_
    obtain ⟨rfl, hacc⟩ := hx0
    obtain ⟨y, ty, rfl, hy⟩ := strsGet hst hv
    refine hZ_ ?_
    clear hZ_ Z_
    replace hy : (Txt.split (flat x) sp)[i]? = some y := hy
    refine assName S ?_
    intro s₁ S₁
    have et : ((Txt.split (flat x) sp).take (i+1)).filter (fun y => y != Str.ofString "") = ((Txt.split (flat x) sp).take i).filter (fun y => y != Str.ofString "") ++ (if (y != Str.ofString "") = true then [y] else []) := by
      rw [List.take_add_one, hy, List.filter_append, Option.toList_some, List.filter_cons, List.filter_nil]
    refine tests1 ?_
    walk_at "w"
    refine split_bool ?_ ?_ <;> intro hc
    · rw [hc, if_pos rfl] at et
      walk_at "w"
      refine CompEnd.mk ‹_› hB'' ⟨rfl, ?_⟩
      rw [et]; exact strsSnoc hacc
    · rw [hc] at et
      refine CompEnd.mk ‹_› hB'' ⟨rfl, ?_⟩
      rw [et]; simpa using hacc
  · intro acc B'' own s d hB'' hx0 hal hd S
    refine hide ?_
    intro Z_ hZ_
    obtain ⟨rfl, hacc⟩ := hx0
    refine hZ_ ?_
    clear hZ_ Z_
    rw [hln, List.take_length] at hacc
    have hf := hx.fit
    have hlist := hd.lo.isList (S.at .head).1
    walk_at "w"
    exact h _ _ (St.done (‹St _ _ _ _ _ _›.rebaseTo (hB.trans hB'')))
end
end
theorem words_3 : True := by
  k_with "strs" => repeat (first | exact StrsAre.nil | apply StrsAre.cons)
  k_with "s" => first
      | ((with_reducible show wpAny _ _ (call (Value.builtin "max") _) _ _ _); refine imax (by assumption) (by assumption) ?_; intro _ _ _ _ _ _ _)
      | ((with_reducible show wpAny _ _ (call (Value.builtin "min") _) _ _ _); refine imin (by assumption) (by assumption) ?_; intro _ _ _ _ _ _ _)
      | ((with_reducible show wpAny _ _ (unaryOp UnaryOp.USub (Value.int _ _)) _ _ _); refine ineg (by assumption) ?_; intro _ _ _)
      | ((with_reducible show wpAny _ _ (binaryOp Operator.Mult (Value.int _ _) (Value.int _ _)) _ _ _); refine imul (by assumption) (by first | exact IntMulOk.of_left (by decide) | exact IntMulOk.of_right (by decide) | exact IntMulOk.of_right (by split <;> decide) | mul_fits) ?_; intro _ _ _)
      | ((with_reducible show wpAny _ _ (binaryOp Operator.Pow (Value.int _ _) (Value.int _ _)) _ _ _); refine ipow (by assumption) (by decide) (by decide) (by decide) ?_; intro _ _ _)
      | ((with_reducible show wpAny _ _ (compareOp CmpOp.In (Value.str _ _) (Value.ref _)) _ _ _); refine inStrs (by assumption) (by walk_at "at") (LO.listOf _ _) (by walk_at "strs") ?_)
      | ((with_reducible show wpAny _ _ (compareOp CmpOp.NotIn (Value.str _ _) (Value.ref _)) _ _ _); refine notinStrs (by assumption) (by walk_at "at") (LO.listOf _ _) (by walk_at "strs") ?_)
  k_with "dr" => first | assumption | exact St.drop (by walk_at "dr")
  k_with "s" => first
      | ((with_reducible show wpAny _ _ (eval (Expr.Subscript (Expr.Name _ _) (Expr.Constant (Const.int _) _ _) _) _) _ _ _); refine tupI (by assumption) (by walk_at "lk") (by assumption) (by decide) (by rfl) ?_; intro _ _)
      | ((with_reducible show wpAny _ _ (spliced (backTo _ (starEach [Expr.Constant (Const.str _) _ _] _))) _ _ _); refine argS1 (by assumption) ?_; intro _ _ _)
      | ((with_reducible show wpAny _ _ (spliced (backTo _ (starEach [Expr.Constant (Const.int _) _ _] _))) _ _ _); refine argI1 (by assumption) ?_; intro _ _ _)
      | ((with_reducible show wpAny _ _ (spliced (backTo _ (starEach (Expr.Constant (Const.str _) _ _ :: _) _))) _ _ _); refine argS (by assumption) ?_; intro _ _ _)
      | ((with_reducible show wpAny _ _ (spliced (backTo _ (starEach (Expr.Constant (Const.int _) _ _ :: _) _))) _ _ _); refine argI (by assumption) ?_; intro _ _ _)
  trivial
section
section
variable {prog : Program} {w : World} {A : Around} {E : Value → Shared → Prop} {s s₀ : Shared} {B : Heap} {L : Addr} {m : Str → Option Value} {own : List (Addr × Obj)} {env : Env}

theorem maxNeg {c r : Int} (h2 : -1 - c ≤ r) (h1 : c ≤ r) : 0 ≤ r :=
  (Int.lt_or_le c 0).elim (fun h => Int.le_trans (Int.sub_nonneg_of_le (show c ≤ -1 from Int.le_sub_one_of_lt h)) h2) fun h => Int.le_trans h h1
theorem joinM {c : Bool} {α : Type} {e₁ e₂ : Sem α} {Q : α → Shared → Prop} (P : α → (Str → Option Value) → Prop) (h1 : c = true → wpAny (model prog w) A e₁ (fun v s' => ∃ m', P v m' ∧ St s₀ B L m' own s') E s)
    (h2 : c = false → wpAny (model prog w) A e₂ (fun v s' => ∃ m', P v m' ∧ St s₀ B L m' own s') E s) (h : ∀ v s' m', P v m' → St s₀ B L m' own s' → Q v s') :
    if c = true then wpAny (model prog w) A e₁ Q E s else wpAny (model prog w) A e₂ Q E s :=
  split_bool (fun e => wpAny_mono (h1 e) (fun v s' x => x.elim fun m' y => h v s' m' y.1 y.2) fun _ _ e => e) fun e => wpAny_mono (h2 e) (fun v s' x => x.elim fun m' y => h v s' m' y.1 y.2) fun _ _ e => e
theorem pool_ok {k : Nat} {src : Addr} {vs : List Value} {ns : List Int} {j : Int} {tt : Tok} {Q : Value → Shared → Prop} (R : Room prog (k + 1) A) (G : Gl w s.heap) (hl : s.heap.IsList src vs.toArray) (hI : IntsAre vs ns) (hn : vs.length ≤ 63) (hj : 0 ≤ j ∧ j ≤ 2)
  (h : ∀ s' a o, Pool o → s'.heap.get? a = some o → s.heap.get? a = none → Done [] s s' → Q (.ref a) s') :
  wpAny (model prog w) A (call (.ref 203) [.ref src, .int j tt]) Q E s := by
  refine enter (X := []) (own := []) (args := ⟨[.ref src, .int j tt], []⟩) (binds := [(Str.ofString "script", .ref src), (Str.ofString "k", .int j tt)]) R G rfl ow0 .nil (by k_is) (by k_is) (by rfl) (locs rfl) (by decide) (by rfl) (by rfl) (by rfl) ?_
  intro L A' s' R' S
  have hl' : (frees s.heap []).IsList src vs.toArray := hl
  have hj0 := hj.1
  have hj1 : j < 2 ^ 63 := Int.lt_of_le_of_lt hj.2 (by decide)
  walk_at "w"
  refine joinM (s₀ := s) (B := frees s.heap []) (L := L) (own := []) (fun (v : Flow) m' => A3 (v = .next) (E2 fun c t => m' (Str.ofString "cell") = some (.int c t)) (m' (Str.ofString "k") = some (.int j tt))) ?_ ?_ ?_
  · intro hc
    simp only [decide_eq_true_eq] at hc
    refine hide ?_
    intro Z_ hZ_
    obtain ⟨y, ty, hx⟩ := intsGet hI (i := j.toNat) ((Int.toNat_lt hj.1).mpr hc)
    refine hZ_ ?_
    clear hZ_ Z_
    walk_at "w"
    refine ⟨_, ?_, ‹St _ _ _ _ _ _›⟩
    exact ⟨rfl, ⟨_, _, by walk_at "lk"⟩, by walk_at "lk"⟩
  · intro _
    walk_at "w"
    refine ⟨_, ?_, ‹St _ _ _ _ _ _›⟩
    exact ⟨rfl, ⟨_, _, by walk_at "lk"⟩, by walk_at "lk"⟩
  · intro v s₁ m' hx0 S₁
    refine hide ?_
    intro Z_ hZ_
    obtain ⟨rfl, ⟨c, t, hm1⟩, hm2⟩ := hx0
    refine hZ_ ?_
    clear hZ_ Z_
    walk_at "w"
    refine h _ _ _ ?_ (St.at ‹_› .head).1 (St.at ‹_› .head).2.2 (St.done ‹_›)
    exact ⟨_, _, _, _, LO.listOf [_, _] _, Int.mul_nonneg (maxNeg (by assumption) (by assumption)) (by split <;> decide), mod_lo (by decide), mod_hi (by decide)⟩
end
end
section
section
variable {prog : Program} {w : World} {A : Around} {E : Value → Shared → Prop} {s s₀ : Shared} {B : Heap} {L : Addr} {m : Str → Option Value} {own : List (Addr × Obj)} {env : Env}

theorem take_st {k : Nat} {src : Addr} {o : Obj} {f : Obj → List (Addr × Obj)} {top : Int} {tt : Tok} {Q : Value → Shared → Prop} (R : Room prog (k + 1) A) (S : St s₀ B L m own s) (G : Gl w B) (hf : At src o own f) (hp : Pool o) (ht : 0 < top ∧ top ≤ 1000)
  (h : ∀ s' r t o', 0 ≤ r → r < top → Pool o' → St s₀ B L m (f o') s' → Q (.int r t) s') :
  wpAny (model prog w) A (call (.ref 210) [.ref src, .int top tt]) Q E s :=
  take_ok R (S.glX G (by obtain ⟨pre, post, rfl, _⟩ := hf.split; simp)) (S.at hf).1 hp ht fun s' r t o' h0 h1 hp' ho' D => h s' r t o' h0 h1 hp' (S.callAt hf D ho')
theorem one_st {k : Nat} {src : Addr} {o : Obj} {p : Addr × Obj} {f : Obj → List (Addr × Obj)} {vs : List Value} {Q : Value → Shared → Prop} (R : Room prog (k + 2) A) (S : St s₀ B L m (p :: own) s) (G : Gl w B) (hf : At src o own f) (hp : Pool o) (hl : LO vs p.2) (hv : 0 < vs.length ∧ vs.length ≤ 1000)
  (h : ∀ s' v o', v ∈ vs → Pool o' → St s₀ B L m (p :: f o') s' → Q v s') :
  wpAny (model prog w) A (call (.ref 217) [.ref src, .ref p.1]) Q E s := by
  have ne : p.1 ≠ src := S.ne (q := (src, o)) hf
  have hl' : (frees s.heap [src]).IsList p.1 vs.toArray := hl.isList (by rw [frees_not (by simpa using ne)]; exact (S.ow p (by first | exact i0 | exact i1 | exact i2 | exact i3 | exact i4 | simp)).1)
  exact one_ok R (S.glX G (by obtain ⟨pre, post, rfl, _⟩ := hf.split; simp)) (S.at (.tail hf)).1 hp hl' hv fun s' v o' hm hp' ho' D => h s' v o' hm hp' (S.callAt (.tail hf) D ho')
theorem strsMem {vs : List Value} {ys : List Str} (h : StrsAre vs ys) : ∀ {v : Value}, v ∈ vs → E2 fun y t => v = .str y t ∧ y ∈ ys := by
  induction h with
  | nil => intro v e; cases e
  | cons a u _ ih =>
    intro v e
    rcases List.mem_cons.mp e with rfl | e
    · exact ⟨a, u, rfl, by simp⟩
    · obtain ⟨y, t, a, b⟩ := ih e; exact ⟨y, t, a, by simp [b]⟩
theorem litemS {value slice : PySem.Expr} {p : Addr × Obj} {vs : List Value} {ys : List Str} {k : Int} {u : Tok} {Q : Value → Shared → Prop} (S : St s₀ B L m (p :: own) s) (hl : LO vs p.2) (hy : StrsAre vs ys)
    (h0 : 0 ≤ k) (h1 : k < vs.length) (hb : vs.length ≤ 1000) (h : ∀ y t, y ∈ ys → St s₀ B L m own s → Q (.str y t) s)
    (hs : subscripted slice false (.ref p.1) (.int k u) = operate [.ref p.1, .int k u] (getItem (.ref p.1) (.int k u))) :
    wpAny (model prog w) A (subscriptTail value slice (.ref p.1) (.int k u)) Q E s := by
  have hr : k.toNat < vs.length := (Int.toNat_lt h0).mpr h1
  have hx : vs[k.toNat]? = some (vs[k.toNat]) := List.getElem?_eq_getElem hr
  refine hide ?_
  intro Z_ hZ_
  obtain ⟨y, t, e, hm⟩ := strsMem hy (List.getElem_mem hr)
  refine hZ_ ?_
  clear hZ_ Z_
  rw [e] at hx
  exact litem (hl.isList (S.ow p (by first | exact i0 | exact i1 | exact i2 | exact i3 | exact i4 | simp)).1) h0 (Int.lt_of_lt_of_le h1 (Int.le_trans (Int.ofNat_le.mpr hb) (by decide))) hx (h y t hm S.drop) hs
theorem one_str {k : Nat} {src : Addr} {o : Obj} {p : Addr × Obj} {f : Obj → List (Addr × Obj)} {vs : List Value} {ys : List Str} {Q : Value → Shared → Prop} (R : Room prog (k + 2) A) (S : St s₀ B L m (p :: own) s) (G : Gl w B) (hf : At src o own f) (hp : Pool o) (hl : LO vs p.2) (hy : StrsAre vs ys) (hv : 0 < vs.length ∧ vs.length ≤ 1000)
  (h : ∀ s' x t o', x ∈ ys → Pool o' → St s₀ B L m (f o') s' → Q (.str x t) s') :
  wpAny (model prog w) A (call (.ref 217) [.ref src, .ref p.1]) Q E s :=
  one_st R S G hf hp hl hv fun s' v o' hm hp' S' => by
    refine hide ?_
    intro Z_ hZ_
    obtain ⟨y, t, rfl, hy'⟩ := strsMem hy hm
    refine hZ_ ?_
    clear hZ_ Z_
    exact h s' y t o' hy' hp' S'.drop

theorem words_4 : True := by
  k_with "one" => (refine one_str (p := (_, _)) (by assumption) (by assumption) (by assumption) (by walk_at "at") (by assumption) (LO.listOf _ _) (by walk_at "strs") (by simp) ?_; intro _ _ _ _ _ _ _)
  k_with "on" => (refine one_str (p := (_, _)) (by assumption) (by assumption) (by assumption) (by walk_at "at") (by assumption) (LO.listOf _ _) (by walk_at "strs") (by simp) ?_)
  k_with "take" => (refine take_st (by assumption) (by assumption) (by assumption) (by walk_at "at") (by assumption) (by decide) ?_; intro _ _ _ _ _ _ _ _)
  trivial

theorem Pool.nt {o : Obj} (h : Pool o) : NT o := by obtain ⟨a, b, ta, tb, x, _⟩ := h; exact x.nt
structure Row where
  el : Str
  nm : Str
  kd : Str
  md : Str
  vl : Option Str
noncomputable def optD : Option Str → PyData
  | none => .none
  | some x => .str x
noncomputable def Row.d (r : Row) : PyData := .tuple [.str r.el, .str r.nm, .str r.kd, .str r.md, optD r.vl]
noncomputable def kinds4 : List Str := [Str.ofString "CDATA", Str.ofString "NMTOKENS", Str.ofString "enumeration", Str.ofString "IDREFS"]
noncomputable def modes4 : List Str := [Str.ofString "required", Str.ofString "implied", Str.ofString "default", Str.ofString "fixed"]
noncomputable def vals3 : List Str := [Str.ofString "u", Str.ofString "u v", Str.ofString "w"]
noncomputable def els2 : List Str := [Str.ofString "e", Str.ofString "e", Str.ofString "f"]
noncomputable def nms3 : List Str := [Str.ofString "p", Str.ofString "q", Str.ofString "r"]
structure RowOk (r : Row) : Prop where
  el : r.el ∈ els2
  nm : r.nm ∈ nms3
  kd : r.kd ∈ kinds4
  md : r.md ∈ modes4
  vl : ∀ x, r.vl = some x → x ∈ vals3

inductive VlIs : Value → Option Str → Prop
  | none : VlIs .none none
  | some (x : Str) (t : Tok) (h : x ∈ vals3) : VlIs (.str x t) (some x)
theorem vlIn {v : Value} {vl : Option Str} (h : VlIs v vl) : ∀ x, vl = some x → x ∈ vals3 := by
  cases h with
  | none => intro x e; cases e
  | some y t hy => intro x e; cases e; exact hy
theorem vlRead {B : Heap} {v : Value} {vl : Option Str} (h : VlIs v vl) : TR B v (optD vl) := by
  cases h with
  | none => exact Reads.none
  | some y t hy => exact Reads.str _ _
theorem rules_ok {k : Nat} {src : Addr} {o : Obj} {Q : Value → Shared → Prop} (R : Room prog (k + 3) A) (G : Gl w (frees s.heap [src])) (ho : s.heap.get? src = some o) (hp : Pool o)
  (h : ∀ s' a oa vs (rows : List Row) o', (∀ r ∈ rows, RowOk r) → rows.length ≤ 5 → LO vs oa → TRs s'.heap vs (rows.map Row.d) → s'.heap.get? a = some oa → s.heap.get? a = none → Pool o' → s'.heap.get? src = some o' → Done [src] s s' → Q (.ref a) s') :
  wpAny (model prog w) A (call (.ref 224) [.ref src]) Q E s := by
  refine enter (own := [(src, o)]) (args := ⟨[.ref src], []⟩) (binds := [(Str.ofString "source", .ref src)]) R G rfl (ow1 ho) nd1 (by k_is) (by k_is) (by rfl) (locs rfl) (by decide) (by rfl) (by rfl) (by rfl) ?_
  intro L A' s' R' S
  walk_at "w"
  refine take_st (k := k + 1) R' ‹_› G (.tail .head) hp (by decide) ?_
  intro s₁ r t o' h0 h1 hp' S₁
  have hr5 : r.toNat ≤ 5 := Int.toNat_le.mpr (Int.le_of_lt_add_one h1)
  walk_at "w"
  refine forRange ‹_› h0 (Int.le_trans (Int.le_of_lt h1) (by decide)) (fun I v s Q hq => let_name I v s Q hq) (fun i B m own => E5 fun f fo os vs (rows : List Row) => A8 (own = [(f, fo), (src, os)]) (LX vs fo) ((∀ r ∈ rows, RowOk r)) (rows.length = i) (TRs B vs (rows.map Row.d)) (Pool os) (m (Str.ofString "source") = some (.ref src)) (m (Str.ofString "rows") = some (.ref f))) ‹_› ⟨_, _, _, [], [], rfl, ⟨0, rfl⟩, by simp, rfl, ReadsAll.nil, hp', rfl, rfl⟩ ?_ ?_
  · intro i ti B' m' own' s₂ p hi hB hx0 hnp S₂
    refine hide ?_
    intro Z_ hZ_
    obtain ⟨f, fo, os, vs, rows, rfl, hlo, hok, hlen, hr, hp, hm1, hm2⟩ := hx0
    refine hZ_ ?_
    clear hZ_ Z_
    refine assName S₂ ?_
    intro s₃ S₃
    have hG : Gl w B' := G.ext hB
    have hvl : vs.length ≤ 1000 := by have := lenM hr; first | walk_at "fit" | omega
    walk_at "w"
    refine exSwap (names := [Str.ofString "kind", Str.ofString "mode"]) ‹_› ?_ (by rfl) (by rfl)
    walk_at "w"
    walk_at "on"
    intro _ kd _ _ hkd _ _
    walk_at "w"
    have R2 : Room prog (k + 2) A' := R'
    refine take_st (k := k + 1) R' (by assumption) (by assumption) (by walk_at "at") (by assumption) (by decide) ?_
    intro _ md _ _ hm0 hm1 _ _
    walk_at "w"
    walk_at "sw"
    walk_at "w"
    refine litemS (p := (_, _)) (by assumption) (LO.listOf _ _) (by walk_at "strs") (by assumption) (by simpa using hm1) (by simp) ?_ (by walk_at "subs")
    intro md2 _ hmd _
    walk_at "w"
    refine joinSt (by assumption) (fun v own' => E2 fun vl os' => A3 (own' = [p, (f, fo), (src, os')]) (VlIs v vl) (Pool os')) ?_ ?_ ?_
    · intro _
      walk_at "w"
      walk_at "one"
      exact ⟨_, ⟨some _, _, rfl, .some _ _ (by assumption), by assumption⟩, by walk_at "dr"⟩
    · intro _
      walk_at "w"
      exact ⟨_, ⟨none, _, rfl, .none, by assumption⟩, by walk_at "dr"⟩
    intro v s₄ own₄ hx0 S₄
    refine hide ?_
    intro Z_ hZ_
    obtain ⟨vl, os', rfl, hv, hp₄⟩ := hx0
    refine hZ_ ?_
    clear hZ_ Z_
    walk_at "w"
    walk_at "on"
    intro _ el _ _ hel _ _
    walk_at "w"
    walk_at "on"
    intro _ nm _ _ hnm _ _
    walk_at "w"
    have S₈ := (‹St _ _ _ _ _ _›)
    obtain ⟨B₃, hB₃, S₉, ht₃, hg₃⟩ := S₈.settle1 (ntC hnp (ntC (LO.nt (LX.lo (by assumption))) (ntC (Pool.nt (by assumption)) ntN)))
    refine TurnEnd.mk S₉ (hB.trans hB₃) ?_
    refine ⟨_, _, _, _, rows ++ [⟨el, nm, kd, md2, vl⟩], rfl, (by assumption), ?_, by simp [hlen], ?_, (by assumption), by walk_at "lk", by walk_at "lk"⟩
    · intro r hr'
      rcases List.mem_append.mp hr' with hr' | hr'
      · exact hok r hr'
      · rw [List.mem_singleton.mp hr']
        exact ⟨hel, hnm, hkd, hmd, vlIn hv⟩
    · rw [List.map_append]
      refine (hr.keeps hB₃).snoc (TR.mk ⟨_, hg₃, rfl, _, rfl⟩ (.mk (Reads.str _ _) (.mk (Reads.str _ _) (.mk (Reads.str _ _) (.mk (Reads.str _ _) (.mk (vlRead hv) ReadsAll.nil))))))
  · intro B' m' own' s₂ hB hx0 S₂
    refine hide ?_
    intro Z_ hZ_
    obtain ⟨f, fo, os, vs, rows, rfl, hlo, hok, hlen, hr, hp, hm1, hm2⟩ := hx0
    refine hZ_ ?_
    clear hZ_ Z_
    walk_at "w"
    have S₃ := S₂.rebaseTo hB
    exact h _ _ _ vs rows os hok (by first | walk_at "fit" | omega) hlo.lo (hr.keeps S₂.keep) (S₃.at .head).1 (by rw [← frees_not (l := [src]) (by simpa using S₃.ne (q := (src, os)) .head)]; exact (S₃.at .head).2.2) hp (S₃.at (.tail .head)).1 S₃.done
end
end
theorem words_5 : True := by
  k_with "at" => first | exact At.tail (by assumption) | exact At.tail (At.mid _)
  k_with "gls" => first | exact rfl | (refine getL_neS (by decide +kernel) ?_; walk_at "gls")
  k_with "gl" => first | exact rfl | assumption | exact getL_self _ _ _ _ _ | (refine (getL_ne (by decide +kernel) _ _ _ _).trans ?_; walk_at "gl")
  k_with "len" => first | exact Nat.zero_le _ | assumption | (refine putL_le ?_; walk_at "len")
  k_with "dict" => first | assumption | exact DS.keeps (by assumption) (St.keep (by assumption)) | exact DS.of (St.at (by assumption) (by walk_at "at")).1 (by assumption) (by assumption)
  k_with "dlen" => first | exact Nat.zero_le _ | assumption | omega
  k_with "inst" => first | exact ⟨St.keep (by assumption) _ _ (by assumption), rfl, rfl, St.keep (by assumption) _ _ (by assumption)⟩ | exact ⟨(St.at (by assumption) (by walk_at "at")).1, rfl, rfl, (St.at (by assumption) (by walk_at "at")).1⟩
  k_with "s" => first
      | ((with_reducible show wpAny _ _ (exec (Stmt.Assign [Expr.Attribute _ _ _] _ _) _) _ _ _); refine plainObj_wpAny_Assign_Attribute ?_)
      | ((with_reducible show wpAny _ _ (setAttr (Value.ref _) _ _) _ _ _); refine setA (by assumption) (by assumption) (by walk_at "at") (by walk_at "at") (by k_is) (by k_is) (by k_is) (by k_is) (by walk_at "gls") (by walk_at "len") ?_; intro _ _ _ _)
      | ((with_reducible show wpAny _ _ (getAttr (Value.ref _) _ _) _ _ _); refine getA (by assumption) (by assumption) (by walk_at "inst") (by k_is) (by k_is) (by k_is) (by k_is) (by walk_at "gl") (by first | rfl | assumption) ?_; intro _ _)
      | ((with_reducible show wpAny _ _ (getMethod (Value.ref _) _ _) _ _ _); first
          | refine getM (by assumption) (by assumption) (by walk_at "inst") (by k_is) (by k_is) (by k_is) (by walk_at "gl") ?_
          | (with_reducible refine dGm (by walk_at "dict") ?_))
      | ((with_reducible show wpAny _ _ (call (Value.builtin "dict.get") _) _ _ _); first
          | (refine dGet2 (by assumption) (by walk_at "dict") ?_; intro _ _)
          | (refine dGet1 (by assumption) (by walk_at "dict") ?_; intro _ _))
      | ((with_reducible show wpAny _ _ (setItem (Value.ref _) (Value.str _ _) _) _ _ _); refine dSet (by assumption) (by walk_at "at") (by assumption) (by walk_at "dlen") ?_; intro _ _ _ _)
      | ((with_reducible show wpAny _ _ (subscriptTail _ _ (Value.ref _) (Value.str _ _)) _ _ _); refine dItem (by assumption) (by walk_at "dict") (by assumption) ?_; intro _ _)
      | ((with_reducible show wpAny _ _ (compareOp CmpOp.NotIn (Value.str _ _) (Value.ref _)) _ _ _); refine notinStrs (by assumption) (by walk_at "at") (LX.lo (by assumption)) (by assumption) ?_)
      | ((with_reducible show wpAny _ _ (call (Value.type "tuple") [Value.ref _]) _ _ _); first | refine call_tuple_tup (by walk_at "tup") ?_ | (refine tupOf (by assumption) (by walk_at "list") (by walk_at "dlen") ?_; intro _ _ _))
      | ((with_reducible show wpAny _ _ (compareOp CmpOp.In (Value.str _ _) (Value.ref _)) _ _ _); refine dIn (by assumption) (by walk_at "dict") ?_; intro _ _)
      | ((with_reducible show wpAny _ _ (compareOp CmpOp.NotIn (Value.str _ _) (Value.ref _)) _ _ _); refine dNotIn (by assumption) (by walk_at "dict") ?_; intro _ _)
      | ((with_reducible show wpAny _ _ (eval (Expr.Dict [] [] _) _) _ _ _); refine dNew (by assumption) (by assumption) ?_; intro _ _ _ _)
  trivial
section
section
variable {prog : Program} {w : World} {A : Around} {E : Value → Shared → Prop} {s s₀ : Shared} {B : Heap} {L : Addr} {m : Str → Option Value} {own : List (Addr × Obj)} {env : Env}

noncomputable def uw : PyData := .tuple [.str (Str.ofString "u"), .str (Str.ofString "w")]
inductive RuleD (kd md v : Value) (ch : Addr) (od : Obj) : Prop where
  | mk (es : List DictEntry) (n : Nat) (h0 : od = dictOf es n) (h1 : getL (Str.ofString "kind") es = some (some kd)) (h2 : getL (Str.ofString "choices") es = some (some (.ref ch))) (h3 : getL (Str.ofString "mode") es = some (some md)) (h4 : getL (Str.ofString "value") es = some (some v)) (h5 : getL (Str.ofString "row") es = some none) : RuleD kd md v ch od

theorem St.own2 {a b : Addr × Obj} (S : St s₀ B L m (a :: b :: own) s) : ∀ p ∈ [a, b], s.heap.get? p.1 = some p.2 := fun p hp => (S.ow p ((List.Sublist.cons_cons a (.cons_cons b (List.nil_sublist own))).subset hp)).1
theorem St.nd2 {a b : Addr × Obj} (S : St s₀ B L m (a :: b :: own) s) : ([a, b].map (·.1)).Nodup := S.nd.sublist ((List.Sublist.cons_cons a (.cons_cons b (List.nil_sublist own))).map _)
theorem mem2 {a b : Addr} {p q : Obj} : ∀ x ∈ [a, b], x ∈ ((a, p) :: (b, q) :: own).map (·.1) := fun _ h => (List.Sublist.cons_cons a (.cons_cons b (List.nil_sublist _))).subset h
theorem ruleNew {k : Nat} {kd md v : Value} {ch : Addr} {Q : Value → Shared → Prop} (R : Room prog (k + 2) A) (S : St s₀ B L m own s) (G : Gl w B) (hc : TR B (.ref ch) uw)
  (h : ∀ x dx od s', RuleD kd md v ch od → St s₀ B L m ((x, instObj 73 dx) :: (dx, od) :: own) s' → Q (.ref x) s') :
  wpAny (model prog w) A (call (.ref 73) [kd, .ref ch, md, v]) Q E s := by
  refine newK (k := k + 1) R S G (by k_is) (by k_is) (by k_is) ?_
  intro x dx s₁ A₁ R₁ S₁
  refine hide ?_
  intro Z_ hZ_
  obtain ⟨a, vs, e, ht, _⟩ := hc.tup
  refine hZ_ ?_
  clear hZ_ Z_
  cases e
  refine enterCode (X := [x, dx]) (own := [(x, instObj 73 dx), (dx, dictOf [] 0)]) (args := ⟨[.ref x, kd, .ref ch, md, v], []⟩) (binds := [(Str.ofString "self", .ref x), (Str.ofString "kind", kd), (Str.ofString "choices", .ref ch), (Str.ofString "mode", md), (Str.ofString "value", v)]) R₁
    (S₁.glX G mem2) rfl S₁.own2 S₁.nd2 (by k_is) (by k_is) (by rfl) (locs rfl) (by decide) (by rfl) (by rfl) (by rfl) ?_
  intro L' A' s' R' S'
  have hG : Gl w (frees s₁.heap [x, dx]) := S₁.glX G mem2
  have ht' : IsTup (frees s₁.heap [x, dx]) ch vs.toArray := IsTup.keeps ht (S₁.extX mem2)
  walk_at "w"
  have S₉ := (‹St _ _ _ _ _ _›)
  refine ⟨rfl, h x dx _ _ ?_ (S₁.back (pre := [(x, instObj 73 dx), (dx, dictOf [] 0)]) S₉ rfl)⟩
  exact ⟨_, _, rfl, by walk_at "gl", by walk_at "gl", by walk_at "gl", by walk_at "gl", by walk_at "gl"⟩
end
end
section
section
variable {prog : Program} {w : World} {A : Around} {E : Value → Shared → Prop} {s s₀ : Shared} {B : Heap} {L : Addr} {m : Str → Option Value} {own : List (Addr × Obj)} {env : Env}

inductive RuleAt (h : Heap) (x : Addr) (kd md : Str) (vl : Option Str) : Prop where
  | mk (dx : Addr) (es : List DictEntry) (n : Nat) (t1 t3 : Tok) (v : Value) (ch : Addr) (a : h.get? x = some (instObj 73 dx)) (b : h.get? dx = some (dictOf es n)) (c1 : getL (Str.ofString "kind") es = some (some (.str kd t1))) (c2 : getL (Str.ofString "choices") es = some (some (.ref ch))) (c3 : TR h (.ref ch) uw) (c4 : getL (Str.ofString "mode") es = some (some (.str md t3))) (c5 : getL (Str.ofString "value") es = some (some v)) (c6 : TR h v (optD vl)) (c7 : getL (Str.ofString "row") es = some none) : RuleAt h x kd md vl
theorem RuleAt.keeps {h h' : Heap} {x : Addr} {kd md : Str} {vl : Option Str} (r : RuleAt h x kd md vl) (e : Ext h h') : RuleAt h' x kd md vl := by
  obtain ⟨dx, es, n, t1, t3, v, ch, a, b, c1, c2, c3, c4, c5, c6, c7⟩ := r
  exact ⟨dx, es, n, t1, t3, v, ch, e _ _ a, e _ _ b, c1, c2, c3.keeps e, c4, c5, c6.keeps e, c7⟩

theorem handed_optD {h : Heap} {v : Value} {vl : Option Str} (r : TR h v (optD vl)) : handedIn v = true := by
  cases vl with
  | none => rw [TR.none r]; rfl
  | some x => obtain ⟨t, rfl⟩ := TR.str r; rfl
theorem row_ok {k : Nat} {x : Addr} {kd md : Str} {vl : Option Str} {Q : Value → Shared → Prop} (R : Room prog (k + 1) A) (G : Gl w s.heap) (r : RuleAt s.heap x kd md vl)
  (h : ∀ s' v, Done [] s s' → TR s'.heap v (.tuple [.str kd, uw, .str md, optD vl]) → Q v s') :
  wpAny (model prog w) A (call (.ref 63) [.ref x]) Q E s := by
  obtain ⟨dx, es, n, t1, t3, v, ch, g1, g2, c1, c2, c3, c4, c5, c6, c7⟩ := r
  refine enter (X := []) (own := []) (args := ⟨[.ref x], []⟩) (binds := [(Str.ofString "self", .ref x)]) R G rfl ow0 .nil (by k_is) (by k_is) (by rfl) (locs rfl) (by decide) (by rfl) (by rfl) (by rfl) ?_
  intro L A' s' R' S
  replace g1 : (frees s.heap []).get? x = some (instObj 73 dx) := g1
  replace g2 : (frees s.heap []).get? dx = some (dictOf es n) := g2
  replace G : Gl w (frees s.heap []) := G
  have hv : handedIn v = true := handed_optD c6
  walk_at "w"
  refine h _ _ (St.done ‹_›) (TR.mk ⟨_, (St.at ‹_› .head).1, rfl, _, rfl⟩ (.mk (Reads.str _ _) (.mk (c3.keeps (St.keep ‹_›)) (.mk (Reads.str _ _) (.mk (c6.keeps (St.keep ‹_›)) ReadsAll.nil)))))

noncomputable def firstRows (rows : List Row) (el : Str) : List Row := rows.foldl (fun acc r => if r.el = el ∧ ¬ (acc.any (fun x => x.nm = r.nm) = true) then acc ++ [r] else acc) []
theorem firstRows_snoc (rows : List Row) (r : Row) (el : Str) : firstRows (rows ++ [r]) el = if r.el = el ∧ ¬ ((firstRows rows el).any (fun x => x.nm = r.nm) = true) then firstRows rows el ++ [r] else firstRows rows el := by
  unfold firstRows; rw [List.foldl_append]; rfl
theorem snocRec {α : Type} {P : List α → Prop} (nil : P []) (snoc : ∀ l a, P l → P (l ++ [a])) (l : List α) : P l := by
  have : ∀ l : List α, P l.reverse := by
    intro l
    induction l with
    | nil => exact nil
    | cons a r ih => rw [List.reverse_cons]; exact snoc _ _ ih
  have := this l.reverse
  rwa [List.reverse_reverse] at this
theorem firstRows_len (rows : List Row) (el : Str) : (firstRows rows el).length ≤ rows.length := by
  refine snocRec (P := fun rows => (firstRows rows el).length ≤ rows.length) (Nat.le_refl _) (fun rows r ih => ?_) rows
  rw [firstRows_snoc]
  split
  · rw [List.length_append, List.length_append]; exact Nat.add_le_add_right ih 1
  · rw [List.length_append]; exact Nat.le_trans ih (Nat.le_add_right _ _)
inductive KvRules (h : Heap) : List (Str × Value) → List Row → Prop
  | nil : KvRules h [] []
  | cons {a : Addr} {r : Row} {kvs rs} : RuleAt h a r.kd r.md r.vl → KvRules h kvs rs → KvRules h ((r.nm, .ref a) :: kvs) (r :: rs)
theorem KvRules.keeps {h h' : Heap} {kvs : List (Str × Value)} {rs : List Row} (x : KvRules h kvs rs) (e : Ext h h') : KvRules h' kvs rs := by
  induction x with
  | nil => exact .nil
  | cons a _ ih => exact .cons (a.keeps e) ih
theorem KvRules.snoc {h : Heap} {kvs : List (Str × Value)} {rs : List Row} (x : KvRules h kvs rs) {a : Addr} {r : Row} (y : RuleAt h a r.kd r.md r.vl) : KvRules h (kvs ++ [(r.nm, .ref a)]) (rs ++ [r]) := by
  induction x with
  | nil => exact .cons y .nil
  | cons a _ ih => exact .cons a ih
theorem KvRules.at {h : Heap} {kvs : List (Str × Value)} {rs : List Row} (x : KvRules h kvs rs) (nm : Str) :
    (valueAt kvs nm = none ∧ rs.find? (fun r => r.nm = nm) = none) ∨ E2 fun a r => A4 (valueAt kvs nm = some (.ref a)) (rs.find? (fun r => r.nm = nm) = some r) (r.nm = nm) (RuleAt h a r.kd r.md r.vl) := by
  induction x with
  | nil => exact .inl ⟨rfl, rfl⟩
  | @cons a r kvs rs y _ ih =>
    by_cases e : r.nm = nm
    · exact .inr ⟨a, r, by simp [valueAt, e], by simp [e], e, y⟩
    · rcases ih with ⟨h1, h2⟩ | ⟨a', r', h1, h2, h3, h4⟩
      · exact .inl ⟨by simpa [valueAt, e] using h1, by simpa [e] using h2⟩
      · exact .inr ⟨a', r', by simpa [valueAt, e] using h1, by simpa [e] using h2, h3, h4⟩
theorem KvRules.length {h : Heap} {kvs : List (Str × Value)} {rs : List Row} (x : KvRules h kvs rs) : kvs.length = rs.length := by
  induction x with
  | nil => rfl
  | cons _ _ ih => simp [ih]

noncomputable def TableOk (prog : Program) (w : World) (h : Heap) (T : List (Str × Value)) (rows : List Row) : Prop :=
  ∀ el, match valueAt T el with
    | none => firstRows rows el = []
    | some v => E2 fun d kvs => A3 (v = .ref d) (DS prog w h d kvs) (KvRules h kvs (firstRows rows el))
theorem TableOk.keeps {h h' : Heap} {T : List (Str × Value)} {rows : List Row} (x : TableOk prog w h T rows) (e : Ext h h') : TableOk prog w h' T rows := by
  intro el
  have := x el
  cases q : valueAt T el with
  | none => rw [q] at this; exact this
  | some v =>
    rw [q] at this
    refine hide ?_
    intro Z_ hZ_
    obtain ⟨d, kvs, a, b, c⟩ := this
    refine hZ_ ?_
    clear hZ_ Z_
    exact ⟨d, kvs, a, b.keeps e, c.keeps e⟩
inductive DtdAt (h : Heap) (x aA : Addr) : Prop where
  | mk (dx : Addr) (es : List DictEntry) (n : Nat) (a : h.get? x = some (instObj 192 dx)) (b : h.get? dx = some (dictOf es n)) (c1 : getL (Str.ofString "attributes") es = some (some (.ref aA))) (c2 : getL (Str.ofString "rules") es = some none) (c3 : getL (Str.ofString "rule") es = some none) (c4 : getL (Str.ofString "declare_attribute") es = some none) : DtdAt h x aA
theorem DtdAt.keeps {h h' : Heap} {x aA : Addr} (r : DtdAt h x aA) (e : Ext h h') : DtdAt h' x aA := by
  obtain ⟨dx, es, n, a, b, c1, c2, c3, c4⟩ := r
  exact ⟨dx, es, n, e _ _ a, e _ _ b, c1, c2, c3, c4⟩
inductive DtdOk (prog : Program) (w : World) (h : Heap) (x : Addr) (rows : List Row) : Prop where
  | mk (aA : Addr) (T : List (Str × Value)) (a : DtdAt h x aA) (b : DS prog w h aA T) (c : TableOk prog w h T rows) : DtdOk prog w h x rows
theorem DtdOk.keeps {h h' : Heap} {x : Addr} {rows : List Row} (r : DtdOk prog w h x rows) (e : Ext h h') : DtdOk prog w h' x rows := by
  obtain ⟨aA, T, a, b, c⟩ := r
  exact ⟨aA, T, a.keeps e, b.keeps e, c.keeps e⟩

theorem dtdRules_ok {k : Nat} {x : Addr} {rows : List Row} {el : Str} {t : Tok} {H : Heap} {Q : Value → Shared → Prop} (R : Room prog (k + 1) A) (G : Gl w s.heap) (eH : Ext H s.heap) (r : DtdOk prog w H x rows)
  (h : ∀ s' d kvs, Done [] s s' → KvRules H kvs (firstRows rows el) → DS prog w s'.heap d kvs → (DS prog w H d kvs ∨ s.heap.get? d = none) → Q (.ref d) s') :
  wpAny (model prog w) A (call (.ref 147) [.ref x, .str el t]) Q E s := by
  obtain ⟨aA, T, ⟨dx, es, n, g1, g2, c1, c2, c3, c4⟩, g3, g4⟩ := r
  refine enter (X := []) (own := []) (args := ⟨[.ref x, .str el t], []⟩) (binds := [(Str.ofString "self", .ref x), (Str.ofString "element", .str el t)]) R G rfl ow0 .nil (by k_is) (by k_is) (by rfl) (locs rfl) (by decide) (by rfl) (by rfl) (by rfl) ?_
  intro L A' s' R' S
  replace g1 : (frees s.heap []).get? x = some (instObj 192 dx) := eH _ _ g1
  replace g2 : (frees s.heap []).get? dx = some (dictOf es n) := eH _ _ g2
  replace G : Gl w (frees s.heap []) := G
  replace g3 : DS prog w (frees s.heap []) aA T := g3.keeps eH
  walk_at "w"
  have S₉ := (‹St _ _ _ _ _ _›)
  have q := g4 el
  cases e : valueAt T el with
  | none =>
    rw [e] at q
    exact h _ _ [] S₉.done (q ▸ .nil) (DS.of (S₉.at .head).1 (by assumption) isDict0) (.inr (S₉.at .head).2.2)
  | some v =>
    rw [e] at q
    refine hide ?_
    intro Z_ hZ_
    obtain ⟨d, kvs, rfl, hd, hk⟩ := q
    refine hZ_ ?_
    clear hZ_ Z_
    exact h _ d kvs S₉.done hk ((DS.keeps hd eH).keeps S₉.keep) (.inl hd)

theorem dtdRule_ok {k : Nat} {x : Addr} {rows : List Row} {el nm : Str} {t u : Tok} {H : Heap} {Q : Value → Shared → Prop} (R : Room prog (k + 2) A) (G : Gl w s.heap) (eH : Ext H s.heap) (r : DtdOk prog w H x rows)
  (h : ∀ s' v, Done [] s s' → (((firstRows rows el).find? (fun r => r.nm = nm) = none ∧ v = .none) ∨ E2 fun a r => A3 (v = .ref a) ((firstRows rows el).find? (fun r => r.nm = nm) = some r) (RuleAt H a r.kd r.md r.vl)) → Q v s') :
  wpAny (model prog w) A (call (.ref 154) [.ref x, .str el t, .str nm u]) Q E s := by
  have r' := r
  obtain ⟨aA, T, ⟨dx, es, n, g1, g2, c1, c2, c3, c4⟩, g3, g4⟩ := r
  refine enter (X := []) (own := []) (args := ⟨[.ref x, .str el t, .str nm u], []⟩) (binds := [(Str.ofString "self", .ref x), (Str.ofString "element", .str el t), (Str.ofString "name", .str nm u)]) R G rfl ow0 .nil (by k_is) (by k_is) (by rfl) (locs rfl) (by decide) (by rfl) (by rfl) (by rfl) ?_
  intro L A' s' R' S
  replace g1 : (frees s.heap []).get? x = some (instObj 192 dx) := eH _ _ g1
  replace g2 : (frees s.heap []).get? dx = some (dictOf es n) := eH _ _ g2
  replace G : Gl w (frees s.heap []) := G
  have eH' : Ext H (frees s.heap []) := eH
  walk_at "w"
  refine dtdRules_ok (k := k) R' (G.ext (St.keep ‹_›)) (eH'.trans (St.keep ‹_›)) r' ?_
  intro s₁ d kvs D hk hd _
  have S₁ := St.call0 ‹_› D
  walk_at "w"
  have S₉ := (‹St _ _ _ _ _ _›)
  refine h _ _ S₉.done ?_
  rcases hk.at nm with ⟨h1, h2⟩ | ⟨a, r, h1, h2, _, h4⟩
  · exact .inl ⟨h2, by rw [h1]; rfl⟩
  · exact .inr ⟨a, r, by rw [h1]; rfl, h2, h4⟩

structure Build (prog : Program) (w : World) (H : Heap) (rows : List Row) (oA : Obj) (ds : List (Addr × Obj)) (T : List (Str × Value)) : Prop where
  dict : oA.IsDictOf (PySem.strKind prog w) T
  len : T.length ≤ rows.length
  at_ : ∀ el, match valueAt T el with
    | none => firstRows rows el = []
    | some v => E3 fun d od kvs => A5 (v = .ref d) ((d, od) ∈ ds) ((d == sysModules) = false) (od.IsDictOf (PySem.strKind prog w) kvs) (KvRules H kvs (firstRows rows el))
  inj : ∀ el el' v, valueAt T el = some v → valueAt T el' = some v → el = el'
  nt : ∀ p ∈ ds, NT p.2

theorem St.skip5 {p₁ p₂ p₃ p₄ p₅ : Addr × Obj} (S : St s₀ B L m (p₁ :: p₂ :: p₃ :: p₄ :: p₅ :: own) s) (h2 : NT p₂.2) (h5 : NT p₅.2) (hnt : ∀ p ∈ own, NT p.2) : ∃ B', A4 (Ext B B') (St s₀ B' L m (p₂ :: own) s) (B'.get? p₄.1 = some p₄.2) (B'.get? p₅.1 = some p₅.2) := by
  obtain ⟨B₁, e1, S₁, _, g1⟩ := ((S.sub (.cons _ (.cons_cons _ (.cons _ (.refl _))))).perm (own' := p₄ :: p₅ :: p₂ :: own) (((List.Perm.swap _ _ _).cons _).trans (.swap _ _ _))).settle1 (ntC h5 (ntC h2 hnt))
  obtain ⟨B₂, e2, S₂, _, g2⟩ := S₁.settle1 (ntC h2 hnt)
  exact ⟨B₂, e1.trans e2, S₂, e2 _ _ g1, g2⟩
theorem dtdNew {k : Nat} {e : Value} {Q : Value → Shared → Prop} (R : Room prog (k + 2) A) (S : St s₀ B L m own s) (G : Gl w B)
  (h : ∀ B' x aA s', Ext B B' → DtdAt B' x aA → (aA == sysModules) = false → St s₀ B' L m ((aA, emptyDict) :: own) s' → Q (.ref x) s') (hnt : ∀ p ∈ own, NT p.2) :
  wpAny (model prog w) A (call (.ref 192) [e]) Q E s := by
  refine newK (k := k + 1) R S G (by k_is) (by k_is) (by k_is) ?_
  intro x dx s₁ A₁ R₁ S₁
  refine enterCode (X := [x, dx]) (own := [(x, instObj 192 dx), (dx, dictOf [] 0)]) (args := ⟨[.ref x, e], []⟩) (binds := [(Str.ofString "self", .ref x), (Str.ofString "root", e)]) R₁
    (S₁.glX G mem2) rfl S₁.own2 S₁.nd2 (by k_is) (by k_is) (by rfl) (locs rfl) (by decide) (by rfl) (by rfl) (by rfl) ?_
  intro L' A' s' R' S'
  have hG : Gl w (frees s₁.heap [x, dx]) := S₁.glX G mem2
  walk_at "w"
  refine ⟨rfl, ?_⟩
  have S₉ := (‹St _ _ _ _ _ _›)
  have S₁₀ := S₁.back (pre := [(x, instObj 192 dx), (dx, dictOf [] 0)]) S₉ rfl
  refine hide ?_
  intro Z_ hZ_
  obtain ⟨B', hB, S₁₁, gx, gd⟩ := S₁₀.skip5 (NT.dict rfl) (NT.dict rfl) hnt
  refine hZ_ ?_
  clear hZ_ Z_
  exact h B' x _ _ hB ⟨dx, _, _, gx, gd, by walk_at "gl", by walk_at "gl", by walk_at "gl", by walk_at "gl"⟩ (by assumption) S₁₁

theorem Build.new {H : Heap} {rows : List Row} {oA oA' od' : Obj} {ds : List (Addr × Obj)} {T : List (Str × Value)} {r : Row} {a d : Addr} (b : Build prog w H rows oA ds T) (e : valueAt T r.el = none)
    (h1 : oA'.IsDictOf (PySem.strKind prog w) (stored T r.el (.ref d))) (h2 : od'.IsDictOf (PySem.strKind prog w) (stored [] r.nm (.ref a))) (hs : (d == sysModules) = false) (hn : d ∉ ds.map (·.1)) (hr : RuleAt H a r.kd r.md r.vl) :
    Build prog w H (rows ++ [r]) oA' ((d, od') :: ds) (stored T r.el (.ref d)) := by
  have q := b.at_ r.el
  rw [e] at q
  have fr : ∀ el, firstRows (rows ++ [r]) el = if r.el = el then [r] else firstRows rows el := fun el => by
    rw [firstRows_snoc]
    by_cases x : r.el = el
    · subst x
      have q' : firstRows rows r.el = [] := q
      simp [q']
    · simp [x]
  rw [stored_new e] at h1 ⊢
  refine ⟨h1, by simp; exact b.len, fun el => ?_, fun el el' v x y => ?_, fun p hp => ?_⟩
  · rw [valueAt_snoc, fr]
    have z := b.at_ el
    by_cases x : r.el = el
    · subst x
      rw [e]
      simp only [if_true, Option.none_or]
      exact ⟨d, od', _, rfl, by simp, hs, h2, by
        have : stored ([] : List (Str × Value)) r.nm (.ref a) = [(r.nm, .ref a)] := rfl
        rw [this]
        exact .cons hr .nil⟩
    · cases y : valueAt T el with
      | none => rw [y] at z; simpa [x] using z
      | some v =>
        rw [y] at z
        refine hide ?_
        intro Z_ hZ_
        obtain ⟨d', od, kvs, a1, a2, a3, a4, a5⟩ := z
        refine hZ_ ?_
        clear hZ_ Z_
        simp only [Option.some_or, if_neg x]
        exact ⟨d', od, kvs, a1, List.mem_cons_of_mem _ a2, a3, a4, a5⟩
  · rw [valueAt_snoc] at x y
    have old : ∀ el, valueAt T el = some (.ref d) → False := fun el z => by
      have := b.at_ el
      rw [z] at this
      refine hide ?_
      intro Z_ hZ_
      obtain ⟨d', od, kvs, a1, a2, _⟩ := this
      refine hZ_ ?_
      clear hZ_ Z_
      cases a1
      exact hn (List.mem_map.mpr ⟨_, a2, rfl⟩)
    cases x1 : valueAt T el with
    | none =>
      rw [x1] at x
      by_cases z : r.el = el
      · simp [z] at x
        subst x
        cases y1 : valueAt T el' with
        | none => rw [y1] at y; by_cases z' : r.el = el' <;> simp_all
        | some v' => rw [y1] at y; simp at y; subst y; exact (old _ y1).elim
      · simp [z] at x
    | some v1 =>
      rw [x1] at x
      simp at x
      subst x
      cases y1 : valueAt T el' with
      | none =>
        rw [y1] at y
        by_cases z' : r.el = el'
        · simp [z'] at y; subst y; exact (old _ x1).elim
        · simp [z'] at y
      | some v' => rw [y1] at y; simp at y; subst y; exact b.inj _ _ _ x1 y1
  · rcases List.mem_cons.mp hp with rfl | hp
    · refine hide ?_
      intro Z_ hZ_
      obtain ⟨es, n, _, hd, _⟩ := h2
      refine hZ_ ?_
      clear hZ_ Z_
      exact NT.dict hd
    · exact b.nt p hp
theorem Build.set {H : Heap} {rows : List Row} {oA od od' : Obj} {pre post : List (Addr × Obj)} {T : List (Str × Value)} {r : Row} {a d : Addr} {kvs : List (Str × Value)} (b : Build prog w H rows oA (pre ++ (d, od) :: post) T) (e : valueAt T r.el = some (.ref d))
    (hk : KvRules H kvs (firstRows rows r.el)) (hv : valueAt kvs r.nm = none) (h2 : od'.IsDictOf (PySem.strKind prog w) (stored kvs r.nm (.ref a))) (hs : (d == sysModules) = false) (hr : RuleAt H a r.kd r.md r.vl) (nd : ((pre ++ (d, od) :: post).map (·.1)).Nodup) :
    Build prog w H (rows ++ [r]) oA (pre ++ (d, od') :: post) T := by
  refine ⟨b.dict, by simp; exact Nat.le_succ_of_le b.len, fun el => ?_, b.inj, fun p hp => ?_⟩
  · rw [firstRows_snoc]
    have z := b.at_ el
    by_cases x : r.el = el
    · subst x
      rw [e]
      have hn : (firstRows rows r.el).any (fun x => x.nm = r.nm) = false := by
        rcases hk.at r.nm with ⟨_, h⟩ | ⟨_, _, h, _⟩
        · rw [List.any_eq_false]
          intro y hy
          exact (List.find?_eq_none.mp h y hy)
        · rw [hv] at h; cases h
      rw [hn]
      refine ⟨d, od', stored kvs r.nm (.ref a), rfl, by simp, hs, h2, ?_⟩
      rw [stored_new hv]
      simpa using hk.snoc hr
    · cases y : valueAt T el with
      | none => rw [y] at z; simpa [x] using z
      | some v =>
        rw [y] at z
        refine hide ?_
        intro Z_ hZ_
        obtain ⟨d', od₁, kvs', a1, a2, a3, a4, a5⟩ := z
        refine hZ_ ?_
        clear hZ_ Z_
        rw [if_neg (by simp [x])]
        refine ⟨d', od₁, kvs', a1, ?_, a3, a4, a5⟩
        have hne : d' ≠ d := by
          rintro rfl
          rw [a1] at y
          exact x (b.inj _ _ _ e y)
        rcases List.mem_append.mp a2 with a2 | a2
        · exact List.mem_append_left _ a2
        · rcases List.mem_cons.mp a2 with a2 | a2
          · exact absurd (congrArg Prod.fst a2) hne
          · exact List.mem_append_right _ (List.mem_cons_of_mem _ a2)
  · rcases List.mem_append.mp hp with hp | hp
    · exact b.nt p (List.mem_append_left _ hp)
    · rcases List.mem_cons.mp hp with rfl | hp
      · refine hide ?_
        intro Z_ hZ_
        obtain ⟨es, n, _, hd, _⟩ := h2
        refine hZ_ ?_
        clear hZ_ Z_
        exact NT.dict hd
      · exact b.nt p (List.mem_append_right _ (List.mem_cons_of_mem _ hp))
theorem Build.same {H : Heap} {rows : List Row} {oA : Obj} {ds : List (Addr × Obj)} {T : List (Str × Value)} {r : Row} {d : Addr} {kvs : List (Str × Value)} {v : Value} (b : Build prog w H rows oA ds T) (e : valueAt T r.el = some (.ref d))
    (hk : KvRules H kvs (firstRows rows r.el)) (hv : valueAt kvs r.nm = some v) : Build prog w H (rows ++ [r]) oA ds T := by
  refine ⟨b.dict, by simp; exact Nat.le_succ_of_le b.len, fun el => ?_, b.inj, b.nt⟩
  have z := b.at_ el
  have : firstRows (rows ++ [r]) el = firstRows rows el := by
    rw [firstRows_snoc]
    by_cases x : r.el = el
    · subst x
      rcases hk.at r.nm with ⟨h, _⟩ | ⟨_, r', _, h, h', _⟩
      · rw [hv] at h; cases h
      · have : (firstRows rows r.el).any (fun x => x.nm = r.nm) = true := List.any_eq_true.mpr ⟨r', List.mem_of_find?_eq_some h, by simp [h']⟩
        simp [this]
    · simp [x]
  rw [this]; exact z
theorem declare_ok {k : Nat} {x aA a : Addr} {oA : Obj} {ds : List (Addr × Obj)} {T : List (Str × Value)} {rows : List Row} {r : Row} {t u : Tok} {Q : Value → Shared → Prop} (R : Room prog (k + 1) A) (S : St s₀ B L m ((aA, oA) :: (ds ++ own)) s) (G : Gl w B) (hx : DtdAt B x aA) (hA : (aA == sysModules) = false)
  (b : Build prog w B rows oA ds T) (hr : RuleAt B a r.kd r.md r.vl) (hlen : rows.length ≤ 10)
  (h : ∀ s' oA' ds' T', Build prog w B (rows ++ [r]) oA' ds' T' → St s₀ B L m ((aA, oA') :: (ds' ++ own)) s' → Q .none s') :
  wpAny (model prog w) A (call (.ref 126) [.ref x, .str r.el t, .str r.nm u, .ref a]) Q E s := by
  have S₀ : St s₀ B L m (((aA, oA) :: ds) ++ own) s := S
  obtain ⟨dx, es, n, g1, g2, c1, c2, c3, c4⟩ := hx
  obtain ⟨X, hXX⟩ : ∃ X, X = ((aA, oA) :: ds).map (·.1) := ⟨_, rfl⟩
  have hX : ∀ y ∈ X, y ∈ (((aA, oA) :: ds) ++ own).map (·.1) := fun y hy => by rw [List.map_append]; exact List.mem_append_left _ (hXX ▸ hy)
  refine enter (X := X) (own := (aA, oA) :: ds) (args := ⟨[.ref x, .str r.el t, .str r.nm u, .ref a], []⟩) (binds := [(Str.ofString "self", .ref x), (Str.ofString "element", .str r.el t), (Str.ofString "name", .str r.nm u), (Str.ofString "rule", .ref a)]) R (S₀.glX G hX) hXX.symm (fun p hp => (S₀.ow p (List.mem_append_left _ hp)).1)
    (by have := S₀.nd; rw [List.map_append, List.nodup_append] at this; exact this.1) (by k_is) (by k_is) (by rfl) (locs rfl) (by decide) (by rfl) (by rfl) (by rfl) ?_
  intro L' A' s' R' S'
  have eB := S₀.extX hX
  replace G := S₀.glX G hX
  replace g1 := eB _ _ g1
  replace g2 := eB _ _ g2
  have dA := b.dict
  have q := b.at_ r.el
  walk_at "w"
  have hTl : T.length ≤ 1000 := Nat.le_trans b.len (Nat.le_trans ‹rows.length ≤ 10› (by decide))
  have hd0 : emptyDict.IsDictOf (PySem.strKind prog w) [] := isDict0
  cases e : valueAt T r.el with
  | none =>
    rw [e] at q
    refine (if_pos (by rfl)).mpr ?_
    walk_at "w"
    refine (if_pos (by rfl)).mpr ?_
    walk_at "w"
    have S₉ := (‹St _ _ _ _ _ _›)
    have S₁₀ := S₀.back (pre := (aA, oA) :: ds) S₉ hXX
    refine h _ _ (_ :: ds) _ (b.new e (by assumption) (by assumption) (by assumption) (fun hm => ?_) hr) (S₁₀.perm (List.Perm.swap _ _ _))
    have nd := S₉.nd
    simp only [List.map_cons, List.nodup_cons, List.mem_cons, not_or] at nd
    exact nd.1.2 hm
  | some v =>
    rw [e] at q
    refine hide ?_
    intro Z_ hZ_
    obtain ⟨d, od, kvs, rfl, hm, hs, hd, hk⟩ := q
    refine hZ_ ?_
    clear hZ_ Z_
    have hkl : kvs.length ≤ 1000 := Nat.le_trans (Nat.le_of_eq hk.length) (Nat.le_trans (firstRows_len ..) (Nat.le_trans ‹rows.length ≤ 10› (by decide)))
    refine hide ?_
    intro Z_ hZ_
    obtain ⟨pre, post, eds⟩ := List.append_of_mem hm
    refine hZ_ ?_
    clear hZ_ Z_
    have hAt : At d od ds fun o' => pre ++ (d, o') :: post := eds ▸ At.mid pre
    have e1 : ((some (Value.ref d)).getD Value.none == Value.none) = false := rfl
    rw [e1]
    refine iteF ?_
    walk_at "w"
    rw [e]
    simp only [Option.getD_some]
    walk_at "w"
    rcases hk.at r.nm with ⟨q1, _⟩ | ⟨a', r', q1, _⟩
    · rw [q1]
      refine (if_pos (by rfl)).mpr ?_
      walk_at "w"
      rw [e]
      simp only [Option.getD_some]
      walk_at "w"
      have S₉ := (‹St _ _ _ _ _ _›)
      have S₁₀ := S₀.back (pre := (aA, oA) :: ds) S₉ hXX
      have nd := S₀.nd
      rw [List.map_append, List.nodup_append, List.map_cons, List.nodup_cons] at nd
      exact h _ _ _ _ (Build.set (eds ▸ b) e hk q1 (by assumption) hs hr (eds ▸ nd.1.2)) S₁₀
    · rw [q1]
      refine (if_neg (by simp)).mpr ?_
      walk_at "w"
      have S₉ := (‹St _ _ _ _ _ _›)
      have S₁₀ := S₀.back (pre := (aA, oA) :: ds) S₉ hXX
      exact h _ _ _ _ (b.same e hk q1) S₁₀
end
end
section
section
variable {prog : Program} {w : World} {A : Around} {E : Value → Shared → Prop} {s s₀ : Shared} {B : Heap} {L : Addr} {m : Str → Option Value} {own : List (Addr × Obj)} {env : Env}

abbrev Pr := Str × Str
noncomputable def pairD (p : Pr) : PyData := .tuple [.str p.1, .str p.2]
noncomputable def attr1 (fr : List Row) (p : Pr) : Pr := (p.1, match fr.find? (fun r => r.nm = p.1) with | some r => normK r.kd p.2 | none => p.2)
noncomputable def attr2 (as : List Pr) (r : Row) : Option Pr := if (as.map (fun x => x.1)).any (fun x => x == r.nm) = true then none else r.vl.map fun x => (r.nm, x)
noncomputable def told (fr : List Row) (as : List Pr) : List Pr := as.map (attr1 fr) ++ fr.filterMap (attr2 as)
theorem pairTup (p : Pr) : ∃ ds, pairD p = .tuple ds := ⟨_, rfl⟩
theorem TR.pair {h : Heap} {v : Value} {p : Pr} (r : TR h v (pairD p)) : E3 fun a t u => v = .ref a ∧ IsTup h a (List.toArray [.str p.1 t, .str p.2 u]) := by
  obtain ⟨a, vs, e, ht, r0⟩ := TR.tup r
  obtain ⟨t, w1, e1, r1⟩ := r0.consStr
  obtain ⟨u, w2, e2, r2⟩ := r1.consStr
  exact ⟨a, t, u, e, TRs.nil r2 ▸ e2 ▸ e1 ▸ ht⟩
theorem KvRules.get {h : Heap} {kvs : List (Str × Value)} {rs : List Row} (x : KvRules h kvs rs) : ∀ {i : Nat} {n : Str} {v : Value}, kvs[i]? = some (n, v) → E2 fun a r => A4 (v = .ref a) (rs[i]? = some r) (n = r.nm) (RuleAt h a r.kd r.md r.vl) := by
  induction x with
  | nil => intro i n v e; simp at e
  | @cons a r kvs rs y _ ih =>
    intro i n v e
    cases i with
    | zero => simp at e; obtain ⟨rfl, rfl⟩ := e; exact ⟨a, r, rfl, rfl, rfl, y⟩
    | succ i => obtain ⟨a, r, h1, h2, h3, h4⟩ := ih (i := i) (by simpa using e); exact ⟨a, r, h1, by simpa using h2, h3, h4⟩

theorem told_ok {k : Nat} {x at_ : Addr} {rows : List Row} {el : Str} {as : List Pr} {t : Tok} {H : Heap} {Q : Value → Shared → Prop} (R : Room prog (k + 6) A) (G : Gl w s.heap) (eH : Ext H s.heap) (r : DtdOk prog w H x rows) (hrl : rows.length ≤ 5)
  (ha : TR s.heap (.ref at_) (.tuple (as.map pairD))) (hal : as.length ≤ 10) (hsm : ∀ p ∈ as, Small2 p.2)
  (h : ∀ s' v, Done [] s s' → TR s'.heap v (.tuple ((told (firstRows rows el) as).map pairD)) → Q v s') :
  wpAny (model prog w) A (call (.ref 98) [.str el t, .ref at_, .ref x]) Q E s := by
  refine enter (X := []) (own := []) (args := ⟨[.str el t, .ref at_, .ref x], []⟩) (binds := [(Str.ofString "element", .str el t), (Str.ofString "attributes", .ref at_), (Str.ofString "dtd", .ref x)]) R G rfl ow0 .nil (by k_is) (by k_is) (by rfl) (locs rfl) (by decide) (by rfl) (by rfl) (by rfl) ?_
  intro L A' s' R' S
  replace G : Gl w (frees s.heap []) := G
  replace eH : Ext H (frees s.heap []) := eH
  replace ha : TR (frees s.heap []) (.ref at_) (.tuple (as.map pairD)) := ha
  obtain ⟨aA, T, ⟨dx, es, n, g1, g2, c1, c2, c3, c4⟩, g3⟩ := id r
  replace g1 := eH _ _ g1
  replace g2 := eH _ _ g2
  refine hide ?_
  intro Z_ hZ_
  obtain ⟨_, avs, e, hat, har⟩ := ha.tup
  refine hZ_ ?_
  clear hZ_ Z_
  cases e
  walk_at "s"
  refine exSwap (names := [Str.ofString "rules", Str.ofString "found", Str.ofString "there"]) R' ?_ (by rfl) (by rfl)
  walk_at "w"
  refine dtdRules_ok (k := k + 4) R' (G.ext (St.keep ‹_›)) (eH.trans (St.keep ‹_›)) r ?_
  intro s₁ d kvs D hk hd hfr
  have S₀ := (‹St _ _ _ _ [] _›)
  have S₁ := S₀.call0 D
  refine hide ?_
  intro Z_ hZ_
  obtain ⟨B₁, hB₁, S₂, hd₁⟩ := S₀.settleD S₁ hd (hfr.imp (fun z => z.keeps (eH)) id)
  refine hZ_ ?_
  clear hZ_ Z_
  replace G := G.ext hB₁
  replace eH := eH.trans hB₁
  replace har := har.keeps hB₁
  replace hat := IsTup.keeps hat hB₁
  clear S S₀ S₁
  walk_at "w"
  walk_at "sw"
  walk_at "w"
  have S₃ := St.drop ‹_›
  have frl : (firstRows rows el).length ≤ 5 := Nat.le_trans (firstRows_len rows el) hrl
  refine forTup ‹_› hat (letT pairTup har) (fun i B m own => E6 fun f fo g go vs ws => A8 (own = [(g, go), (f, fo)]) (LX vs fo) (LX ws go) (StrsAre ws ((as.take i).map (·.1))) (TRs B vs (((as.take i).map (attr1 (firstRows rows el))).map pairD)) (m (Str.ofString "rules") = some (.ref d)) (m (Str.ofString "found") = some (.ref f)) (m (Str.ofString "there") = some (.ref g))) S₃ ?_ ?_ ?_
  · exact ⟨_, _, _, _, [], [], rfl, ⟨0, rfl⟩, ⟨0, rfl⟩, .nil, ReadsAll.nil, by walk_at "lk", by walk_at "lk", by walk_at "lk"⟩
  · intro i v B' m own s₂ p hv hB hx0 hnp S
    refine hide ?_
    intro Z_ hZ_
    obtain ⟨f, fo, g, go, vs, ws, rfl, hf, hg, hws, hvs, hm1, hm2, hm3⟩ := hx0
    obtain ⟨pr, hp, h2⟩ := datIs har hv
    obtain ⟨a, t1, t2, ev_, hta⟩ := (h2.keeps (hB.trans S.keep)).pair
    refine hZ_ ?_
    clear hZ_ Z_ hv
    subst ev_
    refine assPair R' S hta ?_
    intro s₃ S₃
    have hi : i < as.length := (List.getElem?_eq_some_iff.mp hp).1
    have hwl : ws.length ≤ 1000 := Nat.le_trans (Nat.le_of_eq ((strsLen hws).trans (List.length_map _))) (Nat.le_trans (List.length_take_le' ..) (Nat.le_trans ‹as.length ≤ 10› (by decide)))
    have hvl : vs.length ≤ 1000 := lenTake2 hvs (Nat.le_trans ‹as.length ≤ 10› (by decide))
    have hG := G.ext hB
    have hd₂ := hd₁.keeps hB
    walk_at "w"
    refine joinSt (by assumption) (fun v own' => ∃ go', A3 (own' = [p, (g, go'), (f, fo)]) (LX (ws ++ [.str pr.1 t1]) go') (∃ t, v = .str (attr1 (firstRows rows el) pr).2 t)) ?_ ?_ ?_
    · intro hc
      rcases hk.at pr.1 with ⟨q1, _⟩ | ⟨b, r₁, q1, q2, q3, ra⟩
      · rw [q1] at hc; cases hc
      obtain ⟨dx', es', n', t1', t3', v', ch, a1, a2, a3, _⟩ := ra.keeps (eH.trans hB)
      walk_at "w"
      refine normalised_ok (k := k + 1) (by assumption) (hG.ext (St.keep ‹_›)) (hsm _ (List.mem_of_getElem? hp)) ?_
      intro s₅ t₅ D
      have S₅ := St.call0 ‹_› D
      exact ⟨_, ⟨_, rfl, by assumption, t₅, by unfold attr1; rw [q2]⟩, S₅⟩
    · intro hc
      rcases hk.at pr.1 with ⟨q1, q2⟩ | ⟨b, r₁, q1, q2, q3, ra⟩
      · walk_at "w"
        exact ⟨_, ⟨_, rfl, by assumption, t2, by unfold attr1; rw [q2]⟩, by assumption⟩
      · rw [q1] at hc; cases hc
    intro v s₄ own₄ hx0 S₄
    refine hide ?_
    intro Z_ hZ_
    obtain ⟨go', rfl, hg', t₄, rfl⟩ := hx0
    refine hZ_ ?_
    clear hZ_ Z_
    walk_at "w"
    have S₅ := (‹St _ _ _ _ _ _›)
    obtain ⟨B₃, hB₃, S₉, _, hg₃⟩ := S₅.settle1 (ntC hnp (ntC ((LX.lo (by assumption)).nt) (ntC ((LX.lo (by assumption)).nt) ntN)))
    refine TurnEnd.mk S₉ (hB.trans hB₃) ⟨_, _, _, _, _, _, rfl, by assumption, by assumption, ?_, ?_, by walk_at "lk", by walk_at "lk", by walk_at "lk"⟩
    · rw [toldTake hp]; exact strsSnoc hws
    · rw [toldTake hp, List.map_append]
      exact (hvs.keeps hB₃).snoc (TR.mk ⟨_, hg₃, rfl, _, rfl⟩ (.mk (Reads.str _ _) (.mk (Reads.str _ _) ReadsAll.nil)))
  · intro B' m own s₂ hB hx0 S
    refine hide ?_
    intro Z_ hZ_
    obtain ⟨f, fo, g, go, vs, ws, rfl, hf, hg, hws, hvs, hm1, hm2, hm3⟩ := hx0
    refine hZ_ ?_
    clear hZ_ Z_
    have havl : avs.length = as.length := lenM har
    rw [havl, List.take_length] at hws hvs
    have hd₂ := hd₁.keeps hB
    replace G := G.ext hB
    replace eH := eH.trans hB
    have hkl := hk.length
    have hwl := strsLen hws
    rw [List.length_map] at hwl
    clear hd hat har g1 g2 ha
    walk_at "w"
    refine forKeys ‹_› hd₂.1 hd₂.2 (fun I v s Q hq => let_name I v s Q hq) (fun i B m own => E3 fun f fo vs => A6 (own = [(g, go), (f, fo)]) (LX vs fo) (TRs B vs ((as.map (attr1 (firstRows rows el)) ++ ((firstRows rows el).take i).filterMap (attr2 as)).map pairD)) (m (Str.ofString "rules") = some (.ref d)) (m (Str.ofString "found") = some (.ref f)) (m (Str.ofString "there") = some (.ref g))) S ?_ ?_ ?_
    · exact ⟨f, fo, vs, rfl, hf, by simpa using hvs, hm1, hm2, hm3⟩
    · intro i nm v tn B'' m' own s₃ p hv hB'' hx0 hnp S₃
      refine hide ?_
      intro Z_ hZ_
      obtain ⟨f, fo, vs, rfl, hf, hvs, hm1, hm2, hm3⟩ := hx0
      obtain ⟨b, r₁, rfl, hr₁, rfl, ra⟩ := hk.get hv
      refine hZ_ ?_
      clear hZ_ Z_
      have q1 := valueAt_nodup hv hd₂.nodup
      obtain ⟨dx', es', n', t1', t3', v', ch, a1, a2, a3, a4, a5, a6, a7, a8, a9⟩ := ra.keeps (eH.trans hB'')
      have hG := G.ext hB''
      have hd₃ := hd₂.keeps hB''
      have hv' := handed_optD a8
      have hvl : vs.length ≤ 1000 := lenApp hvs ‹as.length ≤ 10› (Nat.le_trans (List.length_take_le' ..) ‹(firstRows rows el).length ≤ 5›)
      have step : ((firstRows rows el).take (i + 1)).filterMap (attr2 as) = ((firstRows rows el).take i).filterMap (attr2 as) ++ (attr2 as r₁).toList := by
        rw [List.take_add_one, hr₁, List.filterMap_append]
        cases h : attr2 as r₁ <;> simp [h]
      refine assName S₃ ?_
      intro s₄ S₄
      walk_at "w"
      refine split_bool ?_ ?_ <;> intro hc
      · rw [Bool.not_eq_true'] at hc
        walk_at "w"
        cases hvl2 : r₁.vl with
        | none =>
          rw [hvl2] at a8
          obtain rfl := TR.none a8
          walk_at "w"
          have h0 : attr2 as r₁ = none := by unfold attr2; rw [hc, hvl2]; rfl
          refine (if_neg (by decide)).mpr ?_
          walk_at "w"
          exact TurnEnd.mk (by assumption) hB'' ⟨_, _, _, rfl, hf, by rw [step, h0]; simpa using hvs, by walk_at "lk", by walk_at "lk", by walk_at "lk"⟩
        | some y =>
          rw [hvl2] at a8
          refine hide ?_
          intro Z_ hZ_
          obtain ⟨ty, rfl⟩ := TR.str a8
          refine hZ_ ?_
          clear hZ_ Z_
          walk_at "w"
          have h0 : attr2 as r₁ = some (r₁.nm, y) := by unfold attr2; rw [hc, hvl2]; rfl
          refine (if_pos (by rfl)).mpr ?_
          walk_at "w"
          have S₅ := (‹St _ _ _ _ _ _›)
          obtain ⟨B₃, hB₃, S₉, _, hg₃⟩ := S₅.settle1 (ntC hnp (ntC hg.lo.nt (ntC ((LX.lo (by assumption)).nt) ntN)))
          refine TurnEnd.mk S₉ (hB''.trans hB₃) ⟨_, _, _, rfl, by assumption, ?_, by walk_at "lk", by walk_at "lk", by walk_at "lk"⟩
          rw [step, h0, Option.toList_some, ← List.append_assoc, List.map_append]
          exact (hvs.keeps hB₃).snoc (TR.mk ⟨_, hg₃, rfl, _, rfl⟩ (.mk (Reads.str _ _) (.mk (Reads.str _ _) ReadsAll.nil)))
      · rw [Bool.not_eq_false'] at hc
        have h0 : attr2 as r₁ = none := by unfold attr2; rw [hc]; rfl
        walk_at "w"
        exact TurnEnd.mk (by assumption) hB'' ⟨_, _, _, rfl, hf, by rw [step, h0]; simpa using hvs, by walk_at "lk", by walk_at "lk", by walk_at "lk"⟩
    · intro B'' m' own s₃ hB'' hx0 S₃
      refine hide ?_
      intro Z_ hZ_
      obtain ⟨f, fo, vs, rfl, hf, hvs, hm1, hm2, hm3⟩ := hx0
      refine hZ_ ?_
      clear hZ_ Z_
      have hG := G.ext hB''
      have hvl : vs.length ≤ 1000 := lenApp hvs ‹as.length ≤ 10› (Nat.le_trans (List.length_take_le' ..) ‹(firstRows rows el).length ≤ 5›)
      have hlo := hf.lo
      walk_at "w"
      have S₄ := (‹St _ _ _ _ _ _›)
      have S₅ := S₄.rebaseTo ((hB₁.trans hB).trans hB'')
      refine h _ _ S₅.done (TR.mk ⟨_, (S₅.at .head).1, rfl, _, rfl⟩ ?_)
      rw [hkl, List.take_length] at hvs
      exact hvs.keeps S₄.keep
end
end
section
section
variable {prog : Program} {w : World} {A : Around} {E : Value → Shared → Prop} {s s₀ : Shared} {B : Heap} {L : Addr} {m : Str → Option Value} {own : List (Addr × Obj)} {env : Env}

inductive Ev where
  | start (el : Str) (as : List Pr)
  | fin (el : Str)
  | text (x : Str)
noncomputable def Ev.d : Ev → PyData
  | .start el as => .tuple [.str (Str.ofString "start"), .str el, .tuple (as.map pairD)]
  | .fin el => .tuple [.str (Str.ofString "end"), .str el]
  | .text x => .tuple [.str (Str.ofString "text"), .str x]
noncomputable def toldEv (rows : List Row) : Ev → Ev
  | .start el as => .start el (told (firstRows rows el) as)
  | e => e
noncomputable def EvSmall : Ev → Prop
  | .start _ as => as.length ≤ 10 ∧ ∀ p ∈ as, Small2 p.2
  | _ => True
theorem TR.start {h : Heap} {v : Value} {el : Str} {as : List Pr} (r : TR h v (Ev.d (.start el as))) : E4 fun a t u b => A3 (v = .ref a) (IsTup h a (List.toArray [.str (Str.ofString "start") t, .str el u, .ref b])) (TR h (.ref b) (.tuple (as.map pairD))) := by
  obtain ⟨a, vs, e, ht, r0⟩ := TR.tup r
  obtain ⟨t, w1, e1, r1⟩ := r0.consStr
  obtain ⟨u, w2, e2, r2⟩ := r1.consStr
  obtain ⟨v3, w3, e3, h3, r3⟩ := TRs.cons r2
  obtain ⟨b, _, e4, _⟩ := id h3.tup
  exact ⟨a, t, u, b, e, e4 ▸ TRs.nil r3 ▸ e3 ▸ e2 ▸ e1 ▸ ht, e4 ▸ h3⟩
theorem TR.strTup {h : Heap} {v : Value} {x : Str} {ds : List PyData} (r : TR h v (.tuple (.str x :: ds))) (hx : (x == Str.ofString "start") = false) : E4 fun a x t vs => A3 (v = .ref a) (IsTup h a (List.toArray (.str x t :: vs))) ((x == Str.ofString "start") = false) := by
  obtain ⟨a, vs, e, ht, r0⟩ := TR.tup r
  obtain ⟨t, w1, e1, r1⟩ := r0.consStr
  exact ⟨a, x, t, w1, e, e1 ▸ ht, hx⟩
theorem TR.other {h : Heap} {v : Value} {e : Ev} (r : TR h v e.d) (hn : ∀ el as, e ≠ .start el as) : E4 fun a x t vs => A3 (v = .ref a) (IsTup h a (List.toArray (.str x t :: vs))) ((x == Str.ofString "start") = false) := by
  cases e with
  | start el as => exact (hn el as rfl).elim
  | fin el => exact TR.strTup r (by decide +kernel)
  | text x => exact TR.strTup r (by decide +kernel)

theorem with_ok {k : Nat} {x l : Addr} {rows : List Row} {evs : List Ev} {vs : List Value} {H : Heap} {Q : Value → Shared → Prop} (R : Room prog (k + 7) A) (G : Gl w s.heap) (eH : Ext H s.heap) (r : DtdOk prog w H x rows) (hrl : rows.length ≤ 5)
  (hl : s.heap.IsList l vs.toArray) (hv : TRs s.heap vs (evs.map Ev.d)) (hn : evs.length ≤ 10) (hsm : ∀ e ∈ evs, EvSmall e)
  (h : ∀ s' a o vs', LX vs' o → s'.heap.get? a = some o → s.heap.get? a = none → TRs s'.heap vs' ((evs.map (toldEv rows)).map Ev.d) → Done [] s s' → Q (.ref a) s') :
  wpAny (model prog w) A (call (.ref 91) [.ref l, .ref x]) Q E s := by
  refine enter (X := []) (own := []) (args := ⟨[.ref l, .ref x], []⟩) (binds := [(Str.ofString "events", .ref l), (Str.ofString "dtd", .ref x)]) R G rfl ow0 .nil (by k_is) (by k_is) (by rfl) (locs rfl) (by decide) (by rfl) (by rfl) (by rfl) ?_
  intro L A' s' R' S
  replace G : Gl w (frees s.heap []) := G
  replace eH : Ext H (frees s.heap []) := eH
  replace hl : (frees s.heap []).IsList l vs.toArray := hl
  replace hv : TRs (frees s.heap []) vs (evs.map Ev.d) := hv
  have hvn : vs.length = evs.length := lenM hv
  walk_at "w"
  refine forList R' hl (fun I i v s Q _ _ hq => let_name I v s Q hq) (fun i B m own => E3 fun f fo ws => A5 (own = [(f, fo)]) (LX ws fo) (TRs B ws (((evs.take i).map (toldEv rows)).map Ev.d)) (m (Str.ofString "dtd") = some (.ref x)) (m (Str.ofString "found") = some (.ref f))) ‹_› ?_ ?_ ?_
  · exact ⟨_, _, [], rfl, ⟨0, rfl⟩, ReadsAll.nil, by walk_at "lk", by walk_at "lk"⟩
  · intro i v B' m own s₂ p hvi hB hx0 hnp S₂
    refine hide ?_
    intro Z_ hZ_
    obtain ⟨f, fo, ws, rfl, hf, hws, hm1, hm2⟩ := hx0
    obtain ⟨e, he, h2⟩ := datIs hv hvi
    refine hZ_ ?_
    clear hZ_ Z_
    have hG := G.ext hB
    have hi : i < evs.length := (List.getElem?_eq_some_iff.mp he).1
    have hwl : ws.length ≤ 1000 := lenTake2 hws (Nat.le_trans ‹evs.length ≤ 10› (by decide))
    replace h2 := h2.keeps hB
    have hse := hsm e (List.mem_of_getElem? he)
    refine assName S₂ ?_
    intro s₃ S₃
    by_cases q : E2 fun el as => e = .start el as
    · refine hide ?_
      intro Z_ hZ_
      obtain ⟨el, as, rfl⟩ := q
      obtain ⟨a, t, u, b, rfl, ht, hb⟩ := h2.start
      refine hZ_ ?_
      clear hZ_ Z_
      walk_at "w"
      refine (if_pos (by rfl)).mpr ?_
      walk_at "w"
      refine told_ok (k := k) (by assumption) (hG.ext (St.keep ‹_›)) ((eH.trans hB).trans (St.keep ‹_›)) r hrl (hb.keeps (St.keep ‹_›)) hse.1 hse.2 ?_
      intro s₄ v D hv₄
      have S₄ := (‹St _ _ _ _ [p, (f, fo)] _›).call0 D
      obtain ⟨B₃, hB₃, S₅, ht₃, _⟩ := S₄.settle (List.Sublist.refl _) (ntC hnp (ntC hf.lo.nt ntN))
      replace hv₄ := hv₄.move ht₃
      walk_at "w"
      have S₆ := (‹St _ _ _ _ _ _›)
      obtain ⟨B₄, hB₄, S₇, _, hg⟩ := S₆.settle1 (ntC hnp (ntC ((LX.lo (by assumption)).nt) ntN))
      refine TurnEnd.mk S₇ ((hB.trans hB₃).trans hB₄) ⟨_, _, _, rfl, by assumption, ?_, by walk_at "lk", by walk_at "lk"⟩
      rw [toldTake he, List.map_append]
      exact ((hws.keeps hB₃).keeps hB₄).snoc (TR.mk ⟨_, hg, rfl, _, rfl⟩ (.mk (Reads.str _ _) (.mk (Reads.str _ _) (.mk (hv₄.keeps hB₄) ReadsAll.nil))))
    · refine hide ?_
      intro Z_ hZ_
      obtain ⟨a, y, t, vs', rfl, ht, hy⟩ := h2.other (fun el as e' => q ⟨el, as, e'⟩)
      refine hZ_ ?_
      clear hZ_ Z_
      walk_at "w"
      rw [hy]
      refine iteF ?_
      walk_at "w"
      have S₆ := (‹St _ _ _ _ _ _›)
      refine TurnEnd.mk S₆ hB ⟨_, _, _, rfl, by assumption, ?_, by walk_at "lk", by walk_at "lk"⟩
      rw [toldTake he, List.map_append]
      have e2 : toldEv rows e = e := by
        cases e with
        | start el as => exact (q ⟨el, as, rfl⟩).elim
        | fin _ => rfl
        | text _ => rfl
      rw [e2]
      exact hws.snoc h2
  · intro B' m own s₂ hB hx0 S₂
    refine hide ?_
    intro Z_ hZ_
    obtain ⟨f, fo, ws, rfl, hf, hws, hm1, hm2⟩ := hx0
    refine hZ_ ?_
    clear hZ_ Z_
    walk_at "w"
    have S₃ := S₂.rebaseTo hB
    rw [hvn, List.take_length] at hws
    exact h _ f fo ws hf (S₃.at .head).1 (S₃.at .head).2.2 (hws.keeps S₂.keep) S₃.done
end
end
theorem words_6 : True := by
  k_with "s" => first
      | ((with_reducible show wpAny _ _ (eval (Expr.Name _ _) _) _ _ _); refine cnm' (by rfl) (by assumption) (by walk_at "at") (by assumption) ?_)
      | ((with_reducible show wpAny _ _ (storeName _ _ _) _ _ _); refine csto' (by rfl) (by assumption) (by walk_at "at") (by assumption) ?_; intro _ _ _ _)
  trivial
section
section
variable {prog : Program} {w : World} {A : Around} {E : Value → Shared → Prop} {s s₀ : Shared} {B : Heap} {L : Addr} {m : Str → Option Value} {own : List (Addr × Obj)} {env : Env}

noncomputable def due1 (fr : List Row) (p : Pr) : Pr := (p.1, if (((fr.find? (fun r => r.nm = p.1)).map (·.kd)).getD cdata == cdata) = true then p.2 else words p.2)
noncomputable def due (fr : List Row) (as : List Pr) : List Pr := as.map (due1 fr) ++ fr.filterMap (attr2 as)
noncomputable def dueEv (rows : List Row) : Ev → Ev
  | .start el as => .start el (due (firstRows rows el) as)
  | e => e
noncomputable def EvSmall3 : Ev → Prop
  | .start _ as => as.length ≤ 10 ∧ ∀ p ∈ as, Small3 p.2
  | _ => True
noncomputable def RowLay (r : Row) : Prop := (Row.d r).canLay0 = true
theorem TR.row {h : Heap} {v : Value} {r : Row} (x : TR h v r.d) : E6 fun a t1 t2 t3 t4 u => A3 (v = .ref a) (IsTup h a (List.toArray [.str r.el t1, .str r.nm t2, .str r.kd t3, .str r.md t4, u])) (TR h u (optD r.vl)) := by
  obtain ⟨a, vs, e, ht, r0⟩ := TR.tup x
  obtain ⟨t1, w1, e1, r1⟩ := r0.consStr
  obtain ⟨t2, w2, e2, r2⟩ := r1.consStr
  obtain ⟨t3, w3, e3, r3⟩ := r2.consStr
  obtain ⟨t4, w4, e4, r4⟩ := r3.consStr
  obtain ⟨v5, w5, e5, h5, r5⟩ := TRs.cons r4
  exact ⟨a, t1, t2, t3, t4, v5, e, TRs.nil r5 ▸ e5 ▸ e4 ▸ e3 ▸ e2 ▸ e1 ▸ ht, h5⟩

theorem rowTup (r : Row) : ∃ ds, r.d = .tuple ds := ⟨_, rfl⟩
theorem firstRows_mem {rows : List Row} {el : Str} : ∀ {r : Row}, r ∈ firstRows rows el → r ∈ rows ∧ r.el = el := by
  refine snocRec (P := fun rows => ∀ {r : Row}, r ∈ firstRows rows el → r ∈ rows ∧ r.el = el) (fun h => by cases h) (fun rows a ih r h => ?_) rows
  rw [firstRows_snoc] at h
  split at h
  · rename_i hc
    rcases List.mem_append.mp h with h | h
    · exact ⟨List.mem_append_left _ (ih h).1, (ih h).2⟩
    · rw [List.mem_singleton.mp h]; exact ⟨by simp, hc.1⟩
  · exact ⟨List.mem_append_left _ (ih h).1, (ih h).2⟩
theorem canLayAll_of {ds : List PyData} (h : ∀ d ∈ ds, d.canLay0 = true) : PyData.canLayAll0 ds = true := by
  induction ds with
  | nil => simp [PyData.canLayAll0]
  | cons d r ih => simp [PyData.canLayAll0, h d (by simp), ih fun x hx => h x (by simp [hx])]
inductive KindsAre : List (Str × Value) → List Row → Prop
  | nil : KindsAre [] []
  | cons {r : Row} {ps rs} (t : Tok) : KindsAre ps rs → KindsAre ((r.nm, .str r.kd t) :: ps) (r :: rs)
theorem KindsAre.snoc {ps : List (Str × Value)} {rs : List Row} (x : KindsAre ps rs) {r : Row} (t : Tok) : KindsAre (ps ++ [(r.nm, .str r.kd t)]) (rs ++ [r]) := by
  induction x with
  | nil => exact .cons t .nil
  | cons u _ ih => exact .cons u ih
theorem KindsAre.names {ps : List (Str × Value)} {rs : List Row} (x : KindsAre ps rs) : ps.map (·.1) = rs.map (·.nm) := by
  induction x with
  | nil => rfl
  | cons u _ ih => simp [ih]
theorem KindsAre.at {ps : List (Str × Value)} {rs : List Row} (x : KindsAre ps rs) (nm : Str) :
    (valueAt ps nm = none ∧ rs.find? (fun r => r.nm = nm) = none) ∨ E2 fun t r => valueAt ps nm = some (.str r.kd t) ∧ rs.find? (fun r => r.nm = nm) = some r := by
  induction x with
  | nil => exact .inl ⟨rfl, rfl⟩
  | @cons r ps rs t _ ih =>
    by_cases e : r.nm = nm
    · exact .inr ⟨t, r, by simp [valueAt, e], by simp [e]⟩
    · rcases ih with ⟨h1, h2⟩ | ⟨a', r', h1, h2⟩
      · exact .inl ⟨by simpa [valueAt, e] using h1, by simpa [e] using h2⟩
      · exact .inr ⟨a', r', by simpa [valueAt, e] using h1, by simpa [e] using h2⟩
theorem firstRows_nodup (rows : List Row) (el : Str) : ((firstRows rows el).map (·.nm)).Nodup := by
  refine snocRec (P := fun rows => ((firstRows rows el).map (·.nm)).Nodup) (by simp [firstRows]) (fun rows a ih => ?_) rows
  rw [firstRows_snoc]
  split
  · rename_i hc
    rw [List.map_append, List.nodup_append]
    refine ⟨ih, by simp, fun x hx y hy e => ?_⟩
    refine hide ?_
    intro Z_ hZ_
    obtain ⟨r, hr, rfl⟩ := List.mem_map.mp hx
    refine hZ_ ?_
    clear hZ_ Z_
    simp at hy
    subst hy
    exact hc.2 (List.any_eq_true.mpr ⟨r, hr, by simp [e]⟩)
  · exact ih
abbrev o2 (f : Addr) (fo : Obj) (L : Addr) (co : Obj) : List (Addr × Obj) := [(f, fo), (L + 1, co)]
abbrev oD (g : Addr) (go : Obj) (L : Addr) (co : Obj) (d : Addr) (dob : Obj) : List (Addr × Obj) := [(g, go), (L + 1, co), (d, dob)]
theorem due_ok {k : Nat} {l : Addr} {rvs : List Value} {v : Value} {rows : List Row} {e : Ev} {Q : Value → Shared → Prop} (R : Room prog (k + 6) A) (G : Gl w s.heap) (hl : s.heap.IsList l rvs.toArray) (hr : TRs s.heap rvs (rows.map Row.d)) (hrl : rows.length ≤ 5) (hlay : ∀ r ∈ rows, RowLay r)
  (hv : TR s.heap v e.d) (hsm : EvSmall3 e)
  (h : ∀ s' v, Done [] s s' → TR s'.heap v (dueEv rows e).d → Q v s') :
  wpAny (model prog w) A (call (.ref 239) [.ref l, v]) Q E s := by
  refine enterC (X := []) (own := []) (vals := [.ref l, v]) (binds := [(Str.ofString "rows", .ref l), (Str.ofString "event", v)]) R G rfl ow0 .nil (by k_is) (by k_is) (by rfl) (fun n x hx => .inl (locs rfl x hx)) (fun n => (List.Pairwise.cons (by simp) .nil : List.Pairwise _ [(Str.ofString "row", n)])) (by rfl) (by rfl) (by rfl) ?_
  rintro L A' s' cs R' hcs S
  cases hcs with
  | @cons _ _ c' _ _ hc1 hc2 hcs =>
  cases hcs
  replace hl : (frees s.heap []).IsList l rvs.toArray := hl
  replace hr : TRs (frees s.heap []) rvs (rows.map Row.d) := hr
  replace hv : TR (frees s.heap []) v e.d := hv
  replace G : Gl w (frees s.heap []) := G
  by_cases q : E2 fun el as => e = .start el as
  · refine hide ?_
    intro Z_ hZ_
    obtain ⟨el, as, rfl⟩ := q
    obtain ⟨a, t, u, b, rfl, ht, hb⟩ := hv.start
    refine hZ_ ?_
    clear hZ_ Z_
    walk_at "w"
    refine (if_neg (by decide +kernel)).mpr ?_
    walk_at "w"
    have hrn : rvs.length = rows.length := lenM hr
    have S₁ := (‹St _ _ _ _ _ _›)
    refine forList R' hl (fun I i v s Q _ _ hq => let_name I v s Q hq) (fun i B m own => E5 fun f fo co v0 vs => A6 (own = o2 f fo L co) (LX vs fo) (CO v0 co) (TRs B vs ((firstRows (rows.take i) el).map Row.d)) (m (Str.ofString "event") = some (.ref a)) (m (Str.ofString "first") = some (.ref f))) S₁ ?_ ?_ ?_
    · exact ⟨_, _, c', _, [], rfl, ⟨0, rfl⟩, hc2, ReadsAll.nil, by walk_at "lk", by walk_at "lk"⟩
    · intro i v B' m own s₂ p hvi hB hx0 hnp S₂
      refine hide ?_
      intro Z_ hZ_
      obtain ⟨f, fo, co, v0, vs, rfl, hf, hco, hvs, hm1, hm2⟩ := hx0
      obtain ⟨r₁, hr₁, h2⟩ := datIs hr hvi
      refine hZ_ ?_
      clear hZ_ Z_
      have hi : i < rows.length := (List.getElem?_eq_some_iff.mp hr₁).1
      have hG := G.ext hB
      have hrl₁ := hlay r₁ (List.mem_of_getElem? hr₁)
      refine hide ?_
      intro Z_ hZ_
      obtain ⟨ra, t1, t2, t3, t4, u5, ev_, hrt, hru⟩ := (h2.keeps hB).row
      refine hZ_ ?_
      clear hZ_ Z_
      subst ev_
      have htB := IsTup.keeps ht hB
      refine assCell (c := L + 1) (by rfl) S₂ (.tail (.tail .head)) hco ?_
      intro s₃ co' hco' S₃
      replace S₃ : St _ _ _ _ (p :: o2 f fo L co') _ := S₃
      walk_at "w"
      refine split_bool ?_ ?_ <;> intro hc
      · walk_at "w"
        refine compHead (by with_unfolding_all rfl) (by rfl) (by decide) ?_
        walk_at "w"
        have S₄ := (‹St _ _ _ _ _ _›)
        obtain ⟨B₂, hB₂, S₅, _, hgf⟩ := S₄.settle2 hnp (ntC hco'.nt ntN)
        have hvl : vs.length ≤ 5 := Nat.le_trans (Nat.le_of_eq (lenM hvs)) (Nat.le_trans (firstRows_len _ _) (Nat.le_trans (List.length_take_le' ..) hrl))
        have hfB : B₂.IsList f vs.toArray := hf.lo.isList hgf
        have hnf : B'.get? f = none := (S₄.ow (f, fo) (by first | exact i0 | exact i1 | exact i2 | exact i3 | exact i4 | simp)).2.2
        refine compList ‹_› hfB (by first | walk_at "fit" | omega) (fun I i v s Q _ _ hq => let_name I v s Q hq) (by decide) (by rfl) (fun j acc B own => own = [p, (L + 1, co')] ∧ TRs B acc ((((firstRows (rows.take i) el).take j).filter (fun r => r.nm == r₁.nm)).map Row.d)) S₅ ⟨rfl, by simpa using ReadsAll.nil⟩ ?_ ?_
        · intro C j v acc B₃ mc own s p₂ d q hvj hB₃ hx0 hal hd hq hp2 hq2 S₆
          refine hide ?_
          intro Z_ hZ_
          obtain ⟨rfl, hacc⟩ := hx0
          obtain ⟨r₂, hr₂, h3⟩ := datIs hvs hvj
          obtain ⟨rb, u1, u2, u3, u4, u5', ev_, hrt2, _⟩ := ((h3.keeps hB₂).keeps hB₃).row
          refine hZ_ ?_
          clear hZ_ Z_ hvj
          subst ev_
          have hrt3 := IsTup.keeps hrt (hB₂.trans hB₃)
          have et : (((firstRows (rows.take i) el).take (j + 1)).filter (fun r => r.nm == r₁.nm)) = (((firstRows (rows.take i) el).take j).filter (fun r => r.nm == r₁.nm)) ++ (if (r₂.nm == r₁.nm) = true then [r₂] else []) := by
            rw [List.take_add_one, hr₂, List.filter_append, Option.toList_some, List.filter_cons, List.filter_nil]
          refine assName S₆ ?_
          intro s₇ S₇
          refine tests1 ?_
          walk_at "w"
          refine split_bool ?_ ?_ <;> intro hc2
          · rw [hc2, if_pos rfl] at et
            walk_at "w"
            refine CompEnd.mk ‹_› hB₃ ⟨rfl, ?_⟩
            rw [et, List.map_append]
            exact hacc.snoc ((h3.keeps hB₂).keeps hB₃)
          · rw [hc2] at et
            refine CompEnd.mk ‹_› hB₃ ⟨rfl, ?_⟩
            rw [et]; simpa using hacc
        · intro acc B₃ own s d hB₃ hx0 hal hd S₆
          refine hide ?_
          intro Z_ hZ_
          obtain ⟨rfl, hacc⟩ := hx0
          refine hZ_ ?_
          clear hZ_ Z_
          walk_at "w"
          have S₇ := (‹St _ _ _ _ _ _›)
          have hvl2 : vs.length = (firstRows (rows.take i) el).length := lenM hvs
          rw [hvl2, List.take_length] at hacc
          refine eqNil R' S₇ (.tail .head) .head hd.lo (LO.listOf [] 0) (hacc.keeps S₇.keep) (canLayAll_of fun d hd => ?_) ?_
          · refine hide ?_
            intro Z_ hZ_
            obtain ⟨r, hr, rfl⟩ := List.mem_map.mp hd
            refine hZ_ ?_
            clear hZ_ Z_
            exact hlay r (List.mem_of_mem_take (firstRows_mem (List.mem_filter.mp hr).1).1)
          have hE := (hB₂.trans hB₃).frees hnf
          have hG₃ := hG.ext hE
          have hvs₃ := hvs.keeps hE
          have h2₃ := (h2.keeps hB).keeps hE
          have S₈ := (S₇.drop.drop).reown (hB₃ _ _ hgf)
          clear S₇ S₆ hd
          walk_at "w"
          refine split_bool ?_ ?_ <;> intro hc3
          · have hn : (firstRows (rows.take i) el).any (fun x => decide (x.nm = r₁.nm)) = false := by
              rw [List.isEmpty_iff, List.map_eq_nil_iff, List.filter_eq_nil_iff] at hc3
              rw [List.any_eq_false]
              intro x hx
              simpa using hc3 x hx
            have ef : firstRows (rows.take (i + 1)) el = firstRows (rows.take i) el ++ [r₁] := by
              rw [List.take_add_one, hr₁, Option.toList_some, firstRows_snoc, if_pos ⟨by simpa using hc, by rw [hn]; decide⟩]
            walk_at "w"
            have S₉ := (‹St _ _ _ _ _ _›)
            refine TurnEnd.mk (S₉.perm (List.Perm.swap _ _ _)) (hB.trans hE) ⟨_, _, _, _, _, rfl, by assumption, hco', ?_, by walk_at "lk", by walk_at "lk"⟩
            rw [ef, List.map_append]
            exact hvs₃.snoc h2₃
          · have hn : (firstRows (rows.take i) el).any (fun x => decide (x.nm = r₁.nm)) = true := by
              cases hq : (firstRows (rows.take i) el).any (fun x => decide (x.nm = r₁.nm)) with
              | true => rfl
              | false =>
                rw [List.any_eq_false] at hq
                have : (firstRows (rows.take i) el).filter (fun r => r.nm == r₁.nm) = [] := by
                  rw [List.filter_eq_nil_iff]
                  intro x hx
                  simpa using hq x hx
                rw [this] at hc3
                cases hc3
            have ef : firstRows (rows.take (i + 1)) el = firstRows (rows.take i) el := by
              rw [List.take_add_one, hr₁, Option.toList_some, firstRows_snoc, if_neg (by rw [hn]; simp)]
            walk_at "w"
            have S₉ := (‹St _ _ _ _ _ _›)
            exact TurnEnd.mk (S₉.perm (List.Perm.swap _ _ _)) (hB.trans hE) ⟨_, _, _, _, _, rfl, hf, hco', by rw [ef]; exact hvs₃, by walk_at "lk", by walk_at "lk"⟩
      · have ef : firstRows (rows.take (i + 1)) el = firstRows (rows.take i) el := by
          rw [List.take_add_one, hr₁, Option.toList_some, firstRows_snoc, if_neg (by intro h; exact absurd h.1 (by simpa using hc))]
        walk_at "w"
        exact TurnEnd.mk (by assumption) hB ⟨_, _, _, _, _, rfl, hf, hco', by rw [ef]; exact hvs, by walk_at "lk", by walk_at "lk"⟩
    · intro B' m own s₂ hB hx0 S₂
      refine hide ?_
      intro Z_ hZ_
      obtain ⟨f, fo, co, v0, vs, rfl, hf, hco, hvs, hm1, hm2⟩ := hx0
      refine hZ_ ?_
      clear hZ_ Z_
      rw [hrn, List.take_length] at hvs
      have frl := firstRows_len rows el
      have hvl : vs.length = (firstRows rows el).length := lenM hvs
      obtain ⟨B₂, hB₂, S₃, _, hgf⟩ := S₂.settle1 (ntC hco.nt ntN)
      replace hvs := hvs.keeps hB₂
      replace hB := hB.trans hB₂
      clear hB₂ S₂
      have hfB : B₂.IsList f vs.toArray := hf.lo.isList hgf
      replace G := G.ext hB
      replace ht := IsTup.keeps ht hB
      replace hb := hb.keeps hB
      walk_at "w"
      refine compHead (by with_unfolding_all rfl) (by rfl) (by decide) ?_
      walk_at "w"
      refine compList ‹_› hfB (by first | walk_at "fit" | omega) (fun I i v s Q _ _ hq => let_name I v s Q hq) (by decide) (by rfl) (fun (j : Nat) (acc : List Value) (B : Heap) (own : List (Addr × Obj)) => own = [(L + 1, co)] ∧ ∃ (ps : List (Str × Value)), A3 (KindsAre ps ((firstRows rows el).take j)) (acc.length = ps.length) (∀ (i : Nat) (v : Value), acc[i]? = some v → ∃ p, ps[i]? = some p ∧ PairAt B v p)) ‹_› ⟨rfl, [], by rw [List.take_zero]; exact KindsAre.nil, rfl, (by intro i v e; simp at e)⟩ ?_ ?_
      · intro C j v acc B₃ mc own s p₂ d q hvj hB₃ hx0 hal hd hq hp2 hq2 S₆
        refine hide ?_
        intro Z_ hZ_
        obtain ⟨rfl, ps, hps, hpl, hpa⟩ := hx0
        obtain ⟨r₂, hr₂, h3⟩ := datIs hvs hvj
        obtain ⟨rb, u1, u2, u3, u4, u5', ev_, hrt2, _⟩ := (h3.keeps hB₃).row
        refine hZ_ ?_
        clear hZ_ Z_ hvj
        subst ev_
        have hG := G.ext hB₃
        refine assName S₆ ?_
        intro s₇ S₇
        refine tests0 ?_
        refine (if_pos rfl).mpr ?_
        walk_at "w"
        have S₈ := (‹St _ _ _ _ _ _›)
        obtain ⟨B₄, hB₄, S₉, _, hg⟩ := S₈.settle1 (ntC hp2 (ntC hd.lo.nt (ntC hq2 (ntC hco.nt ntN))))
        refine CompEnd.mk S₉ (hB₃.trans hB₄) ⟨rfl, ps ++ [(r₂.nm, .str r₂.kd u3)], ?_, by simp [hpl], fun i v e => ?_⟩
        · rw [List.take_add_one, hr₂]; exact hps.snoc u3
        · by_cases hi : i < acc.length
          · rw [List.getElem?_append_left hi] at e
            refine hide ?_
            intro Z_ hZ_
            obtain ⟨p, h1, b, t, h2, h3⟩ := hpa i v e
            refine hZ_ ?_
            clear hZ_ Z_
            exact ⟨p, by rw [List.getElem?_append_left (hpl ▸ hi)]; exact h1, b, t, h2, IsTup.keeps h3 hB₄⟩
          · have hi' : i = acc.length := by
              have := (List.getElem?_eq_some_iff.mp e).1
              rw [List.length_append] at this
              exact Nat.le_antisymm (Nat.lt_succ_iff.mp this) (Nat.not_lt.mp hi)
            subst hi'
            rw [List.getElem?_append_right (Nat.le_refl _), Nat.sub_self] at e
            simp at e
            subst e
            exact ⟨_, by rw [hpl, List.getElem?_append_right (Nat.le_refl _), Nat.sub_self]; rfl, _, u2, rfl, ⟨_, hg, rfl, _, rfl⟩⟩
      · intro acc B₃ own s d hB₃ hx0 hal hd S₆
        refine hide ?_
        intro Z_ hZ_
        obtain ⟨rfl, ps, hps, hpl, hpa⟩ := hx0
        rw [hvl, List.take_length] at hps
        obtain ⟨B₄, hB₄, S₇, _, hg⟩ := S₆.settle1 (ntC hco.nt ntN)
        refine hZ_ ?_
        clear hZ_ Z_
        have hG := G.ext (hB₃.trans hB₄)
        walk_at "w"
        have S₈ := (‹St _ _ _ _ _ _›)
        refine dictOfL R' S₈ hG hg hd (fun i v e => by obtain ⟨p, h1, b, t, h2, h3⟩ := hpa i v e; exact ⟨p, h1, b, t, h2, IsTup.keeps h3 hB₄⟩) hpl (by rw [← hpl]; walk_at "fit") ?_
        intro s₉ kd ok hok hks S₉
        rw [fillD_nodup (by rw [hps.names]; exact firstRows_nodup rows el)] at hok
        obtain ⟨B₅, hB₅, S₁₀, _, hgk⟩ := S₉.settle1 (ntC hco.nt ntN)
        have hE := (hB₃.trans hB₄).trans hB₅
        replace hG := hG.ext hB₅
        have hkd : DS prog w B₅ kd ps := DS.of hgk hks hok
        replace hvs := hvs.keeps hE
        replace ht := IsTup.keeps ht hE
        replace hb := hb.keeps hE
        replace hfB : B₅.IsList f vs.toArray := hfB.at fun o e => hE _ _ e
        have hBB := hB.trans hE
        clear G S₆ S₇ S₈ S₉ hg hgk hok hks hpa hgf
        refine hide ?_
        intro Z_ hZ_
        obtain ⟨_, avs, e, hat, har⟩ := hb.tup
        refine hZ_ ?_
        clear hZ_ Z_
        cases e
        walk_at "w"
        refine forTup ‹_› hat (letT pairTup har) (fun (i : Nat) (B : Heap) m own => E3 fun g go gs => A7 (own = o2 g go L co) (LX gs go) (TRs B gs (((as.take i).map (due1 (firstRows rows el))).map pairD)) (m (Str.ofString "kinds") = some (.ref kd)) (m (Str.ofString "found") = some (.ref g)) (m (Str.ofString "event") = some (.ref a)) (m (Str.ofString "first") = some (.ref f))) ‹_› ?_ ?_ ?_
        · exact ⟨_, _, [], rfl, ⟨0, rfl⟩, ReadsAll.nil, by walk_at "lk", by walk_at "lk", by walk_at "lk", by walk_at "lk"⟩
        · intro i v B' m own s₂ p hv hB hx0 hnp S
          refine hide ?_
          intro Z_ hZ_
          obtain ⟨g, go, gs, rfl, hg, hgs, hm1, hm2, hm3, hm4⟩ := hx0
          obtain ⟨pr, hp, h2⟩ := datIs har hv
          obtain ⟨a, t1, t2, ev_, hta⟩ := (h2.keeps (hB.trans S.keep)).pair
          refine hZ_ ?_
          clear hZ_ Z_ hv
          subst ev_
          refine assPair R' S hta ?_
          intro s₃ S₃
          have hi : i < as.length := (List.getElem?_eq_some_iff.mp hp).1
          have hal := hsm.1
          have hvl : gs.length ≤ 1000 := lenTake2 hgs (Nat.le_trans hal (by decide))
          have hG := hG.ext hB
          have hkd := hkd.keeps hB
          have hget : ∀ t, ∃ t', (valueAt ps pr.1).getD (.str (Str.ofString "CDATA") t) = .str ((((firstRows rows el).find? (fun r => r.nm = pr.1)).map (·.kd)).getD cdata) t' := fun t => by
            rcases hps.at pr.1 with ⟨q1, q2⟩ | ⟨t', r, q1, q2⟩
            · exact ⟨t, by rw [q1, q2]; rfl⟩
            · exact ⟨t', by rw [q1, q2]; rfl⟩
          walk_at "w"
          refine hide ?_
          intro Z_ hZ_
          obtain ⟨F, hF⟩ := Classical.axiomOfChoice hget
          refine hZ_ ?_
          clear hZ_ Z_
          rw [hF]
          walk_at "w"
          refine joinSt (by assumption) (fun v own' => own' = p :: o2 g go L co ∧ ∃ t, v = .str (due1 (firstRows rows el) pr).2 t) ?_ ?_ ?_
          · intro hc
            walk_at "w"
            exact ⟨_, ⟨rfl, t2, by unfold due1; exact congrArg (fun x => Value.str x t2) (if_pos hc).symm⟩, by assumption⟩
          · intro hc
            walk_at "w"
            refine words_ok (k := k + 2) (by assumption) (hG.ext (St.keep ‹_›)) (hsm.2 _ (List.mem_of_getElem? hp)) ?_
            intro s₅ t₅ D
            have S₅ := St.call0 ‹_› D
            exact ⟨_, ⟨rfl, t₅, by unfold due1; exact congrArg (fun x => Value.str x t₅) (if_neg (fun h => Bool.noConfusion (hc.symm.trans h))).symm⟩, S₅⟩
          intro v s₄ own₄ hx0 S₄
          refine hide ?_
          intro Z_ hZ_
          obtain ⟨rfl, t₄, rfl⟩ := hx0
          refine hZ_ ?_
          clear hZ_ Z_
          walk_at "w"
          have S₅ := (‹St _ _ _ _ _ _›)
          obtain ⟨B₃, hB₃, S₉, _, hg₃⟩ := S₅.settle1 (ntC hnp (ntC ((LX.lo (by assumption)).nt) (ntC hco.nt ntN)))
          refine TurnEnd.mk S₉ (hB.trans hB₃) ⟨_, _, _, rfl, by assumption, ?_, by walk_at "lk", by walk_at "lk", by walk_at "lk", by walk_at "lk"⟩
          rw [toldTake hp, List.map_append]
          exact (hgs.keeps hB₃).snoc (TR.mk ⟨_, hg₃, rfl, _, rfl⟩ (.mk (Reads.str _ _) (.mk (Reads.str _ _) ReadsAll.nil)))
        · intro B' m own s₂ hB hx0 S
          refine hide ?_
          intro Z_ hZ_
          obtain ⟨g, go, gs, rfl, hg, hgs, hm1, hm2, hm3, hm4⟩ := hx0
          refine hZ_ ?_
          clear hZ_ Z_
          have havl : avs.length = as.length := lenM har
          have hal := hsm.1
          rw [havl, List.take_length] at hgs
          replace hG := hG.ext hB
          replace hkd := hkd.keeps hB
          replace hvs := hvs.keeps hB
          replace ht := IsTup.keeps ht hB
          replace har := har.keeps hB
          replace hat := IsTup.keeps hat hB
          replace hfB : B'.IsList f vs.toArray := hfB.at fun o e => hB _ _ e
          replace hBB := hBB.trans hB
          clear hB hb
          walk_at "w"
          refine compAssign (by with_unfolding_all rfl) (by with_unfolding_all rfl) (by rfl) (by decide) ?_
          walk_at "w"
          refine compTupU R' hat (by first | walk_at "fit" | omega) (letT pairTup har) (by decide) (by rfl) (fun (j : Nat) (acc : List Value) (B : Heap) (own : List (Addr × Obj)) => own = o2 g go L co ∧ StrsAre acc ((as.take j).map (·.1))) ‹_› ⟨rfl, by rw [List.take_zero]; exact .nil⟩ ?_ ?_
          · intro C j v acc B₃ mc own s p₂ d q hvj hB₃ hx0 _ hd hq hp2 hq2 S₆
            refine hide ?_
            intro Z_ hZ_
            obtain ⟨rfl, hacc⟩ := hx0
            obtain ⟨pr, hpr, h3⟩ := datIs har hvj
            obtain ⟨ra, t1, t2, ev_, hta⟩ := (h3.keeps (hB₃.trans S₆.keep)).pair
            refine hZ_ ?_
            clear hZ_ Z_ hvj
            subst ev_
            refine assPair R' S₆ hta ?_
            intro s₇ S₇
            refine tests0 ?_
            refine (if_pos rfl).mpr ?_
            walk_at "w"
            refine CompEnd.mk ‹_› hB₃ ⟨rfl, ?_⟩
            rw [toldTake hpr]; exact strsSnoc hacc
          · intro acc B₃ own s c hx0 hB₃ hx1 _ hd S₆
            refine hide ?_
            intro Z_ hZ_
            obtain ⟨da, dob⟩ := hx0
            obtain ⟨rfl, hacc⟩ := hx1
            refine hZ_ ?_
            clear hZ_ Z_
            rw [havl, List.take_length] at hacc
            refine assName S₆ ?_
            intro s₇ S₇
            refine ⟨_, _, _, S₇, fun s₈ S₈ => ?_⟩
            replace hG := hG.ext hB₃
            replace hvs := hvs.keeps hB₃
            replace ht := IsTup.keeps ht hB₃
            replace hgs := hgs.keeps hB₃
            replace hfB : B₃.IsList f vs.toArray := hfB.at fun o e => hB₃ _ _ e
            replace hBB := hBB.trans hB₃
            clear hB₃ S₆ S₇ hkd har hat
            have S₉ := S₈.perm (own' := oD g go L co da dob) (List.perm_append_comm (l₁ := o2 g go L co) (l₂ := [(da, dob)]))
            have hdl : dob = dob := rfl
            replace hd : LX acc dob := hd
            walk_at "w"
            refine forList R' hfB (fun I i v s Q _ _ hq => let_name I v s Q hq) (fun i B m own => E4 fun go co v0 gs => A7 (own = oD g go L co da dob) (LX gs go) (CO v0 co) (TRs B gs ((as.map (due1 (firstRows rows el)) ++ ((firstRows rows el).take i).filterMap (attr2 as)).map pairD)) (m (Str.ofString "written") = some (.ref da)) (m (Str.ofString "found") = some (.ref g)) (m (Str.ofString "event") = some (.ref a))) S₉ ?_ ?_ ?_
            · exact ⟨go, co, v0, gs, rfl, hg, hco, by simpa using hgs, by walk_at "lk", by walk_at "lk", by walk_at "lk"⟩
            · intro i v B'' m' own s₁ p hvi hB hx0 hnp S₁
              refine hide ?_
              intro Z_ hZ_
              obtain ⟨go, co, v0, gs, rfl, hg, hco, hgs, hm1, hm2, hm3⟩ := hx0
              obtain ⟨r₁, hr₁, h2⟩ := datIs hvs hvi
              obtain ⟨ra, t1, t2, t3, t4, u5, ev_, hrt, hru⟩ := (h2.keeps hB).row
              refine hZ_ ?_
              clear hZ_ Z_ hvi
              subst ev_
              have hG := hG.ext hB
              have hgl : gs.length ≤ 1000 := lenApp hgs hsm.1 (Nat.le_trans (List.length_take_le' ..) (Nat.le_trans frl hrl))
              have step : ((firstRows rows el).take (i + 1)).filterMap (attr2 as) = ((firstRows rows el).take i).filterMap (attr2 as) ++ (attr2 as r₁).toList := by
                rw [List.take_add_one, hr₁, List.filterMap_append]
                cases h : attr2 as r₁ <;> simp [h]
              refine assCell (c := L + 1) (by rfl) S₁ (.tail (.tail .head)) hco ?_
              intro s₃ co' hco' S₃
              replace S₃ : St _ _ _ _ (p :: oD g go L co' da dob) _ := S₃
              walk_at "w"
              refine split_bool ?_ ?_ <;> intro hc
              · rw [Bool.not_eq_true'] at hc
                walk_at "w"
                cases hvl2 : r₁.vl with
                | none =>
                  rw [hvl2] at hru
                  obtain rfl := TR.none hru
                  have h0 : attr2 as r₁ = none := by unfold attr2; rw [hc, hvl2]; rfl
                  refine (if_neg (by decide)).mpr ?_
                  walk_at "w"
                  exact TurnEnd.mk (by assumption) hB ⟨_, _, _, _, rfl, hg, hco', by rw [step, h0]; simpa using hgs, by walk_at "lk", by walk_at "lk", by walk_at "lk"⟩
                | some y =>
                  rw [hvl2] at hru
                  refine hide ?_
                  intro Z_ hZ_
                  obtain ⟨ty, rfl⟩ := TR.str hru
                  refine hZ_ ?_
                  clear hZ_ Z_
                  have h0 : attr2 as r₁ = some (r₁.nm, y) := by unfold attr2; rw [hc, hvl2]; rfl
                  refine (if_pos (by rfl)).mpr ?_
                  walk_at "w"
                  have S₅ := (‹St _ _ _ _ _ _›)
                  obtain ⟨B₃, hB₃, S₉, _, hg₃⟩ := S₅.settle1 (ntC hnp (ntC ((LX.lo (by assumption)).nt) (ntC hco'.nt (ntC hd.lo.nt ntN))))
                  refine TurnEnd.mk S₉ (hB.trans hB₃) ⟨_, _, _, _, rfl, by assumption, hco', ?_, by walk_at "lk", by walk_at "lk", by walk_at "lk"⟩
                  rw [step, h0, Option.toList_some, ← List.append_assoc, List.map_append]
                  exact (hgs.keeps hB₃).snoc (TR.mk ⟨_, hg₃, rfl, _, rfl⟩ (.mk (Reads.str _ _) (.mk (Reads.str _ _) ReadsAll.nil)))
              · rw [Bool.not_eq_false'] at hc
                have h0 : attr2 as r₁ = none := by unfold attr2; rw [hc]; rfl
                walk_at "w"
                exact TurnEnd.mk (by assumption) hB ⟨_, _, _, _, rfl, hg, hco', by rw [step, h0]; simpa using hgs, by walk_at "lk", by walk_at "lk", by walk_at "lk"⟩
            · intro B'' m' own s₁ hB hx0 S₁
              refine hide ?_
              intro Z_ hZ_
              obtain ⟨go, co, v0, gs, rfl, hg, hco, hgs, hm1, hm2, hm3⟩ := hx0
              refine hZ_ ?_
              clear hZ_ Z_
              rw [hvl, List.take_length] at hgs
              replace hG := hG.ext hB
              replace ht := IsTup.keeps ht hB
              have hgl : gs.length ≤ 1000 := lenApp hgs hsm.1 (Nat.le_trans frl hrl)
              have hlo := hg.lo
              walk_at "w"
              have S₄ := (‹St _ _ _ _ _ _›)
              refine h _ _ (St.done (S₄.rebaseTo (hBB.trans hB))) ?_
              exact TR.mk ⟨_, (S₄.at .head).1, rfl, _, rfl⟩ (.mk (Reads.str _ _) (.mk (Reads.str _ _) (.mk (TR.mk ⟨_, (S₄.at (.tail .head)).1, rfl, _, rfl⟩ (hgs.keeps S₄.keep)) ReadsAll.nil)))
  · refine hide ?_
    intro Z_ hZ_
    obtain ⟨a, y, t, vs', rfl, ht, hy⟩ := hv.other (fun el as e' => q ⟨el, as, e'⟩)
    refine hZ_ ?_
    clear hZ_ Z_
    walk_at "w"
    refine (if_pos (by rw [bne, hy]; rfl)).mpr ?_
    walk_at "w"
    have S₉ := (‹St _ _ _ _ _ _›)
    refine h _ _ (St.done S₉.drop) ?_
    have e2 : dueEv rows e = e := by
      cases e with
      | start el as => exact (q ⟨el, as, rfl⟩).elim
      | fin _ => rfl
      | text _ => rfl
    rw [e2]
    exact hv.keeps S₉.keep
end
end
theorem words_7 : True := by
  k_with "at" => first | exact At.head | exact At.tail At.head | exact At.tail (At.tail At.head) | exact At.tail (At.tail (At.tail At.head)) | exact At.tail (At.tail (At.tail (At.tail At.head))) | exact At.tail (At.tail (At.tail (At.tail (At.tail At.head)))) | exact At.tail (At.tail (At.tail (At.tail (At.tail (At.tail At.head))))) | exact At.tail (At.tail (At.tail (At.tail (At.tail (At.tail (At.tail At.head)))))) | exact At.tail (At.tail (At.tail (At.tail (At.tail (At.tail (At.tail (At.tail At.head))))))) | exact At.tail (At.tail (At.tail (At.tail (At.tail (At.tail (At.tail (At.tail (At.tail At.head)))))))) | exact At.tail (At.mid _)
  k_with "on" => (refine one_str (p := (_, _)) (by assumption) (by assumption) (by assumption) (by walk_at "at") (by assumption) (LO.listOf _ _) (by walk_at "strs") (by simp) ?_)
  k_with "take" => (refine take_st (by assumption) (by assumption) (by assumption) (by walk_at "at") (by assumption) (by decide) ?_)
  trivial
section
section
variable {prog : Program} {w : World} {A : Around} {E : Value → Shared → Prop} {s s₀ : Shared} {B : Heap} {L : Addr} {m : Str → Option Value} {own : List (Addr × Obj)} {env : Env}

noncomputable def els4 : List Str := [Str.ofString "e", Str.ofString "e", Str.ofString "f", Str.ofString "g"]
noncomputable def names4 : List Str := [Str.ofString "r", Str.ofString "p", Str.ofString "z", Str.ofString "q"]
noncomputable def values4 : List Str := [Str.ofString " u  v ", Str.ofString "u", Str.ofString "", Str.ofString "\n\tw u "]
noncomputable def EvOk : Ev → Prop
  | .start el as => el ∈ els4 ∧ as.length ≤ 4 ∧ ∀ p ∈ as, p.1 ∈ names4 ∧ p.2 ∈ values4
  | .fin el => el ∈ els4
  | .text x => x = Str.ofString " u  v "

theorem one_stB {k : Nat} {src l : Addr} {o : Obj} {f : Obj → List (Addr × Obj)} {vs : List Value} {ys : List Str} {Q : Value → Shared → Prop} (R : Room prog (k + 2) A) (S : St s₀ B L m own s) (G : Gl w B) (hf : At src o own f) (hp : Pool o) (hl : B.IsList l vs.toArray) (hy : StrsAre vs ys) (hv : 0 < vs.length ∧ vs.length ≤ 1000)
  (h : ∀ s' x t o', x ∈ ys → Pool o' → St s₀ B L m (f o') s' → Q (.str x t) s') :
  wpAny (model prog w) A (call (.ref 217) [.ref src, .ref l]) Q E s := by
  have hX : ∀ x ∈ [src], x ∈ own.map (·.1) := by obtain ⟨pre, post, rfl, _⟩ := hf.split; simp
  refine one_ok R (S.glX G hX) (S.at hf).1 hp (hl.at fun o e => S.extX hX _ _ e) hv fun s' v o' hm hp' ho' D => ?_
  refine hide ?_
  intro Z_ hZ_
  obtain ⟨y, t, rfl, hy'⟩ := strsMem hy hm
  refine hZ_ ?_
  clear hZ_ Z_
  exact h s' y t o' hy' hp' (S.callAt hf D ho')

abbrev oE (f : Addr) (fo : Obj) (L : Addr) (cv cs : Obj) (src : Addr) (os : Obj) : List (Addr × Obj) := [(f, fo), (L + 1 + 1, cv), (L + 1, cs), (src, os)]
theorem len4 {n : Nat} (h : n = 4) : 0 < n ∧ n ≤ 1000 := h ▸ ⟨by decide, by decide⟩
theorem events_ok {k : Nat} {src : Addr} {o : Obj} {Q : Value → Shared → Prop} (R : Room prog (k + 3) A) (G : Gl w (frees s.heap [src])) (ho : s.heap.get? src = some o) (hp : Pool o)
  (h : ∀ s' a oa vs (evs : List Ev) o', (∀ e ∈ evs, EvOk e) → evs.length ≤ 5 → LX vs oa → TRs s'.heap vs (evs.map Ev.d) → s'.heap.get? a = some oa → s.heap.get? a = none → Pool o' → s'.heap.get? src = some o' → Done [src] s s' → Q (.ref a) s') :
  wpAny (model prog w) A (call (.ref 234) [.ref src]) Q E s := by
  refine enterC (own := [(src, o)]) (vals := [.ref src]) (binds := [(Str.ofString "source", .ref src)]) R G rfl (ow1 ho) nd1 (by k_is) (by k_is) (by rfl) (fun n x hx => .inr (by rw [List.mem_singleton.mp hx]; exact ⟨rfl, rfl⟩)) (by intro n; show List.Pairwise (fun x y : Str × Addr => x.1 ≠ y.1) [(Str.ofString "values", n + 1), (Str.ofString "source", n)]; exact .cons (by intro y hy; rw [List.mem_singleton.mp hy]; show Str.ofString "values" ≠ Str.ofString "source"; decide +kernel) (.cons (by simp) .nil)) (by rfl) (by rfl) (by rfl) ?_
  rintro L A' s' cs R' hcs S
  cases hcs with
  | @cons _ _ cv _ _ hv1 hv2 hcs =>
  cases hcs with
  | @cons _ _ cs' _ _ hc1 hc2 hcs =>
  cases hcs
  replace hc2 : CO (some (.ref src)) cs' := hc2
  walk_at "w"
  walk_at "take"
  intro s₁ r t o' h0 h1 hp' S₁
  have hr5 : (1 + r).toNat ≤ 5 := Int.toNat_le.mpr (Int.le_trans (Int.add_le_add_left (Int.le_of_lt_add_one (b := 4) h1) 1) (by decide))
  walk_at "w"
  refine forRange ‹_› (Int.add_nonneg (by decide) h0) (Int.le_trans (Int.add_le_add_left (Int.le_of_lt h1) 1) (by decide)) (fun I v s Q hq => let_name I v s Q hq) (fun i (B : Heap) m own => E8 fun f fo cv v0 cs' os vs (evs : List Ev) => A9 (own = oE f fo L cv cs' src os) (LX vs fo) (CO v0 cv) (CO (some (.ref src)) cs') (Pool os) ((∀ e ∈ evs, EvOk e)) (evs.length = i) (TRs B vs (evs.map Ev.d)) (m (Str.ofString "found") = some (.ref f))) ‹_› ?_ ?_ ?_
  · exact ⟨_, _, cv, _, cs', _, [], [], rfl, ⟨0, rfl⟩, hv2, hc2, hp', by simp, rfl, ReadsAll.nil, by walk_at "lk"⟩
  · intro i ti B' m' own' s₂ p hi hB hx0 hnp S₂
    refine hide ?_
    intro Z_ hZ_
    obtain ⟨f, fo, cv, v0, cs', os, vs, evs, rfl, hf, hcv, hcs, hp, hok, hlen, hvs, hm1⟩ := hx0
    refine hZ_ ?_
    clear hZ_ Z_
    refine assName S₂ ?_
    intro s₃ S₃
    have hG : Gl w B' := G.ext hB
    have hvl : vs.length ≤ 1000 := by have := lenM hvs; first | walk_at "fit" | omega
    walk_at "w"
    refine exSwap (names := [Str.ofString "name", Str.ofString "way"]) ‹_› ?_ (by rfl) (by rfl)
    walk_at "w"
    walk_at "on"
    intro _ el _ _ hel hp₁ _
    have S_ : St _ _ _ _ (p :: oE _ _ _ _ _ _ _) _ := ‹St _ _ _ _ _ _›
    walk_at "w"
    have R2 : Room prog (k + 1 + 1) A' := R'
    walk_at "take"
    intro _ way _ _ hw0 hw1 hp₂ _
    have S__ : St _ _ _ _ (p :: oE _ _ _ _ _ _ _) _ := ‹St _ _ _ _ _ _›
    walk_at "w"
    walk_at "sw"
    walk_at "w"
    refine compAssign (by with_unfolding_all rfl) (by with_unfolding_all rfl) (by rfl) (by decide) ?_
    walk_at "w"
    have S₄ := (‹St _ _ _ _ _ _›)
    refine hide ?_
    intro Z_ hZ_
    obtain ⟨B₂, hB₂, S₅, _, hgl⟩ := (S₄.sub (.cons_cons _ (.cons _ (.refl _)))).settle1 (ntC hnp (ntC hf.lo.nt (ntC hcv.nt (ntC hcs.nt (ntC hp₂.nt ntN)))))
    obtain ⟨nv, hnv, hnl⟩ : ∃ nv, B₂.IsList _ (List.toArray nv) ∧ StrsAre nv names4 := ⟨_, (LO.listOf _ _).isList hgl, by unfold names4; walk_at "strs"⟩
    refine hZ_ ?_
    clear hZ_ Z_
    have hnn : nv.length = 4 := strsLen hnl
    refine compListU R' hnv (by first | walk_at "fit" | omega) (fun I i v s Q _ _ hq => let_name I v s Q hq) (by decide) (by rfl) (fun (j : Nat) (acc : List Value) (B : Heap) (own : List (Addr × Obj)) => E2 fun os' (xs : List Str) => A4 (own = p :: oE f fo L cv cs' src os') (Pool os') (StrsAre acc xs) (∀ x ∈ xs, x ∈ names4)) S₅ ⟨_, [], rfl, hp₂, .nil, by simp⟩ ?_ ?_
    · intro C j v acc B₃ mc own s p₂ d q hvj hB₃ hx0 hal hd hq hp2 hq2 S₆
      refine hide ?_
      intro Z_ hZ_
      obtain ⟨os', xs, rfl, hp₃, hacc, hxs⟩ := hx0
      obtain ⟨y, ty, rfl, hy⟩ := strsGet hnl hvj
      refine hZ_ ?_
      clear hZ_ Z_
      have hG := (hG.ext hB₂).ext hB₃
      refine assName S₆ ?_
      intro s₇ S₇
      refine tests1 ?_
      walk_at "w"
      walk_at "take"
      intro _ z _ _ _ _ hp₄ _
      walk_at "w"
      refine split_bool ?_ ?_ <;> intro hc
      · walk_at "w"
        refine CompEnd.mk ‹_› hB₃ ⟨_, xs ++ [y], rfl, hp₄, strsSnoc hacc, ?_⟩
        intro x hx
        rcases List.mem_append.mp hx with hx | hx
        · exact hxs x hx
        · rw [List.mem_singleton.mp hx]; exact List.mem_of_getElem? hy
      · exact CompEnd.mk ‹_› hB₃ ⟨_, xs, rfl, hp₄, hacc, hxs⟩
    · intro acc B₃ own s c d hB₃ hx0 hal hd S₆
      refine hide ?_
      intro Z_ hZ_
      obtain ⟨os', xs, rfl, hp₃, hacc, hxs⟩ := hx0
      refine hZ_ ?_
      clear hZ_ Z_
      refine assName S₆ ?_
      intro s₇ S₇
      refine ⟨_, _, _, S₇, fun s₈ S₈ => ?_⟩
      obtain ⟨B₄, hB₄, S₉, _, hgd⟩ := S₈.settle1 (ntC hnp (ntC hf.lo.nt (ntC hcv.nt (ntC hcs.nt (ntC hp₃.nt ntN)))))
      have hE := (hB₂.trans hB₃).trans hB₄
      have hG₂ := hG.ext hE
      clear S₆ S₇ S₈ S₅ S₄ hG
      walk_at "w"
      have S₁₀ := (‹St _ _ _ _ _ _›)
      refine hide ?_
      intro Z_ hZ_
      obtain ⟨B₅, hB₅, S₁₁, _, hgl₂⟩ := S₁₀.settle1 (ntC hnp (ntC hf.lo.nt (ntC (CO.nt (by assumption)) (ntC hcs.nt (ntC hp₃.nt ntN)))))
      obtain ⟨vv, hvv, hvl2⟩ : ∃ vv, B₅.IsList _ (List.toArray vv) ∧ StrsAre vv values4 := ⟨_, (LO.listOf _ _).isList hgl₂, by unfold values4; walk_at "strs"⟩
      refine hZ_ ?_
      clear hZ_ Z_
      have hvn : vv.length = 4 := strsLen hvl2
      have hG₃ := hG₂.ext hB₅
      have hdB : B₅.IsList d.1 acc.toArray := hd.lo.isList (hB₅ _ _ hgd)
      have hE₂ := hE.trans hB₅
      clear S₉ S₁₀ hgl₂ hgl hgd hG₂
      refine compHead (by with_unfolding_all rfl) (by rfl) (by decide) ?_
      walk_at "w"
      refine compList R' hdB (by first | walk_at "fit" | omega) (fun I i v s Q _ _ hq => let_name I v s Q hq) (by decide) (by rfl) (fun (j : Nat) (ac : List Value) (B : Heap) (own : List (Addr × Obj)) => E4 fun l cv₁ os'' (prs : List Pr) => A6 (own = p :: oE f fo L cv₁ cs' src os'') (CO (some (.ref l)) cv₁) (B.IsList l vv.toArray) (Pool os'') (TRs B ac (prs.map pairD)) (∀ x ∈ prs, x.1 ∈ names4 ∧ x.2 ∈ values4)) S₁₁ ⟨_, _, _, [], rfl, by assumption, hvv, hp₃, ReadsAll.nil, by simp⟩ ?_ ?_
      · intro C j v ac B₆ mc own s p₂ d₂ q hvj hB₆ hx0 hal₂ hd₂ hq hp2 hq2 S₁₂
        refine hide ?_
        intro Z_ hZ_
        obtain ⟨l, cv₁, os'', prs, rfl, hcv₁, hlv, hp₄, hac, hprs⟩ := hx0
        obtain ⟨y, ty, rfl, hy⟩ := strsGet hacc hvj
        refine hZ_ ?_
        clear hZ_ Z_
        have hG := hG₃.ext hB₆
        refine assName S₁₂ ?_
        intro s₇ S₁₃
        refine tests0 ?_
        refine (if_pos rfl).mpr ?_
        walk_at "w"
        refine one_stB R2 (by assumption) hG (by walk_at "at") hp₄ hlv hvl2 (len4 (by assumption)) ?_
        intro _ x _ _ hx hp₅ _
        walk_at "w"
        have S₁₄ := (‹St _ _ _ _ _ _›)
        obtain ⟨B₇, hB₇, S₁₅, _, hg₇⟩ := S₁₄.settle1 (ntC hp2 (ntC hd₂.lo.nt (ntC hq2 (ntC hnp (ntC hf.lo.nt (ntC hcv₁.nt (ntC hcs.nt (ntC hp₅.nt ntN))))))))
        refine CompEnd.mk S₁₅ (hB₆.trans hB₇) ⟨l, cv₁, _, prs ++ [(y, x)], rfl, hcv₁, hlv.at fun o e => hB₇ _ _ e, hp₅, ?_, fun z hz => ?_⟩
        · rw [List.map_append]
          exact (hac.keeps hB₇).snoc (TR.mk ⟨_, hg₇, rfl, _, rfl⟩ (.mk (Reads.str _ _) (.mk (Reads.str _ _) ReadsAll.nil)))
        · rcases List.mem_append.mp hz with hz | hz
          · exact hprs z hz
          · rw [List.mem_singleton.mp hz]; exact ⟨hxs _ (List.mem_of_getElem? hy), hx⟩
      · intro ac B₆ own s hx0 hB₆ hx1 hal₂ hd₂ S₁₂
        refine hide ?_
        intro Z_ hZ_
        obtain ⟨d2a, d2o⟩ := hx0
        obtain ⟨l, cv₁, os'', prs, rfl, hcv₁, hlv, hp₄, hac, hprs⟩ := hx1
        refine hZ_ ?_
        clear hZ_ Z_
        have hG := hG₃.ext hB₆
        have hpl : prs.length ≤ 4 := Nat.le_trans (Nat.le_of_eq (lenM hac).symm) (by walk_at "fit")
        replace hd₂ : LX ac d2o := hd₂
        have hlo₂ := hd₂.lo
        have hacl : ac.length ≤ 1000 := by first | walk_at "fit" | omega
        walk_at "w"
        have S₁₃ := (‹St _ _ _ _ _ _›)
        obtain ⟨B₇, hB₇, S₁₄, _, hgt⟩ := S₁₃.settle1 (ntC hlo₂.nt (ntC hnp (ntC hf.lo.nt (ntC hcv₁.nt (ntC hcs.nt (ntC hp₄.nt ntN))))))
        replace S₁₄ := S₁₄.drop
        have hatt : TR B₇ (.ref _) (.tuple (prs.map pairD)) := TR.mk ⟨_, hgt, rfl, _, rfl⟩ (hac.keeps hB₇)
        have hG₇ := hG.ext hB₇
        clear hG S₁₃ hgt
        refine joinB S₁₄ (fun v B own' => E2 fun os₃ e => A4 (own' = p :: oE f fo L cv₁ cs' src os₃) (Pool os₃) (EvOk e) (TR B v e.d)) ?_ ?_ ?_
        · intro _
          walk_at "w"
          have S₁₅ := (‹St _ _ _ _ _ _›)
          obtain ⟨B₈, hB₈, S₁₆, _, hg₈⟩ := S₁₅.settle1 (ntC hnp (ntC hf.lo.nt (ntC hcv₁.nt (ntC hcs.nt (ntC hp₄.nt ntN)))))
          exact ⟨B₈, _, hB₈, ⟨_, .start el prs, rfl, hp₄, ⟨hel, hpl, hprs⟩, TR.mk ⟨_, hg₈, rfl, _, rfl⟩ (.mk (Reads.str _ _) (.mk (Reads.str _ _) (.mk (hatt.keeps hB₈) ReadsAll.nil)))⟩, S₁₆⟩
        · intro _
          walk_at "w"
          refine one_st (p := (_, _)) R2 (by assumption) hG₇ (by walk_at "at") hp₄ (LO.listOf _ _) (by simp) ?_
          intro s₉ v o₉ hv hp₉ S₁₅
          obtain ⟨B₈, hB₈, S₁₆, ht₈, _⟩ := S₁₅.settle (.cons _ (.cons _ (.cons _ (.refl _)))) (ntC hnp (ntC hf.lo.nt (ntC hcv₁.nt (ntC hcs.nt (ntC hp₉.nt ntN)))))
          have g1 := ht₈ _ _ (S₁₅.at (.tail .head)).1 ⟨rfl, _, _, rfl⟩
          have g2 := ht₈ _ _ (S₁₅.at (.tail (.tail .head))).1 ⟨rfl, _, _, rfl⟩
          rcases List.mem_cons.mp hv with rfl | hv
          · exact ⟨B₈, _, hB₈, ⟨_, .fin el, rfl, hp₉, hel, TR.mk ⟨_, g2, rfl, _, rfl⟩ (.mk (Reads.str _ _) (.mk (Reads.str _ _) ReadsAll.nil))⟩, S₁₆⟩
          · rw [List.mem_singleton.mp hv]
            exact ⟨B₈, _, hB₈, ⟨_, .text (Str.ofString " u  v "), rfl, hp₉, rfl, TR.mk ⟨_, g1, rfl, _, rfl⟩ (.mk (Reads.str _ _) (.mk (Reads.str _ _) ReadsAll.nil))⟩, S₁₆⟩
        intro v s₉ B₈ own₉ hB₈ hx0 S₁₅
        refine hide ?_
        intro Z_ hZ_
        obtain ⟨os₃, e, rfl, hp₉, he, hv⟩ := hx0
        refine hZ_ ?_
        clear hZ_ Z_
        walk_at "w"
        have S₁₆ := (‹St _ _ _ _ _ _›)
        have hEE := ((hE₂.trans hB₆).trans hB₇).trans hB₈
        refine TurnEnd.mk S₁₆ (hB.trans hEE) ⟨_, _, cv₁, _, cs', os₃, _, evs ++ [e], rfl, by assumption, hcv₁, hcs, hp₉, ?_, by simp [hlen], ?_, by walk_at "lk"⟩
        · intro x hx
          rcases List.mem_append.mp hx with hx | hx
          · exact hok x hx
          · rw [List.mem_singleton.mp hx]; exact he
        · rw [List.map_append]; exact (hvs.keeps hEE).snoc hv
  · intro B' m' own' s₂ hB hx0 S₂
    refine hide ?_
    intro Z_ hZ_
    obtain ⟨f, fo, cv, v0, cs', os, vs, evs, rfl, hf, hcv, hcs, hp, hok, hlen, hvs, hm1⟩ := hx0
    refine hZ_ ?_
    clear hZ_ Z_
    walk_at "w"
    have S₃ := S₂.rebaseTo hB
    exact h _ _ _ vs evs os hok (by first | walk_at "fit" | omega) hf (hvs.keeps S₂.keep) (S₃.at .head).1 (by rw [← frees_not (l := [src]) (by simpa using S₃.ne (q := (src, os)) (.tail (.tail .head)))]; exact (S₃.at .head).2.2) hp (S₃.at (.tail (.tail (.tail .head)))).1 (St.done (S₃.drop.sub (.cons _ (.cons _ (.refl _)))))
end
end
section
noncomputable def chk2 (x : Str) : Bool := decide (x.length ≤ 100) && x.cps.all (fun c => decide (c < 128)) && decide (((spAll x (x.length + 1)).1.map (·.length)).sum + (spAll x (x.length + 1)).1.length * 64 ≤ 16777216)
noncomputable def chk3 (x : Str) : Bool := decide (x.length ≤ 100) && x.cps.all (fun c => decide (c < 128)) && decide ((Txt.replace x nl sp).length ≤ 1000) && decide ((flat x).length ≤ 1000) &&
  decide ((Builtin.Str.partsBetween (flat x) (Builtin.Str.occurrences (flat x) sp 0 (flat x).length ((flat x).length + 1)) sp.length).length ≤ 1000) && decide ((Txt.split (flat x) sp).length ≤ 500) &&
  decide ((((Txt.split (flat x) sp).filter (fun y => y != Str.ofString "")).map (·.length)).sum + ((Txt.split (flat x) sp).filter (fun y => y != Str.ofString "")).length * 64 ≤ 16777216)
theorem small_of {x : Str} (h1 : x.length ≤ 100) (h2 : x.cps.all (fun c => decide (c < 128)) = true) : Small x :=
  ⟨h1, fun i c e => by
    have := Array.all_eq_true.mp h2
    obtain ⟨hi, rfl⟩ := Array.getElem?_eq_some_iff.mp e
    simpa using this i hi⟩
theorem small2_of {x : Str} (h : chk2 x = true) : Small2 x := by
  unfold chk2 at h
  simp only [Bool.and_eq_true, decide_eq_true_eq] at h
  obtain ⟨⟨h1, h2⟩, h3⟩ := h
  exact ⟨small_of h1 h2, h3⟩
theorem small3_of {x : Str} (h : chk3 x = true) : Small3 x := by
  unfold chk3 at h
  simp only [Bool.and_eq_true, decide_eq_true_eq] at h
  obtain ⟨⟨⟨⟨⟨⟨h1, h2⟩, h3⟩, h4⟩, h5⟩, h6⟩, h7⟩ := h
  exact ⟨small_of h1 h2, h3, h4, h5, h6, h7⟩
noncomputable def texts : List Str := [Str.ofString " u  v ", Str.ofString "u", Str.ofString "", Str.ofString "\n\tw u ", Str.ofString "u v", Str.ofString "w u", Str.ofString "w"]
theorem values_texts : ∀ x ∈ values4, x ∈ texts := by decide +kernel
theorem vals_texts : ∀ x ∈ vals3, x ∈ texts := by decide +kernel
theorem texts_chk2 : ∀ x ∈ texts, chk2 x = true := by decide +kernel
theorem values_chk3 : ∀ x ∈ values4, chk3 x = true := by decide +kernel
theorem norm_words : ∀ x ∈ values4, norm x = words x := by decide +kernel
theorem norm_texts : ∀ x ∈ texts, norm x ∈ texts := by decide +kernel
theorem norm_norm : ∀ x ∈ texts, norm (norm x) = norm x := by decide +kernel
theorem norm_vals : ∀ x ∈ vals3, norm x = x := by decide +kernel
theorem texts_ok : ∀ x ∈ texts, PyData.strOk x = true := by decide +kernel
theorem els_ok : ∀ x ∈ els4, PyData.strOk x = true := by decide +kernel
theorem els2_ok : ∀ x ∈ els2, PyData.strOk x = true := by decide +kernel
theorem names_ok : ∀ x ∈ names4, PyData.strOk x = true := by decide +kernel
theorem nms_ok : ∀ x ∈ nms3, PyData.strOk x = true := by decide +kernel
theorem kinds_ok : ∀ x ∈ kinds4, PyData.strOk x = true := by decide +kernel
theorem modes_ok : ∀ x ∈ modes4, PyData.strOk x = true := by decide +kernel
theorem vals_ok : ∀ x ∈ vals3, PyData.strOk x = true := fun x h => texts_ok x (vals_texts x h)

theorem told_due {fr : List Row} {as : List Pr} (h : ∀ p ∈ as, p.2 ∈ values4) : told fr as = due fr as := by
  unfold told due
  congr 1
  refine List.map_congr_left fun p hp => ?_
  unfold attr1 due1
  cases fr.find? (fun r => r.nm = p.1) with
  | none => rfl
  | some r =>
    show (p.1, normK r.kd p.2) = (p.1, if (r.kd == cdata) = true then p.2 else words p.2)
    unfold normK
    cases e : r.kd == cdata with
    | true => rfl
    | false => rw [if_neg (by simp), if_neg (by simp), norm_words _ (h p hp)]
theorem normK_texts {kd x : Str} (h : x ∈ texts) : normK kd x ∈ texts := by
  unfold normK
  split
  · exact h
  · exact norm_texts x h
theorem normK_normK {kd x : Str} (h : x ∈ texts) : normK kd (normK kd x) = normK kd x := by
  unfold normK
  split
  · rfl
  · exact norm_norm x h
theorem normK_vals {kd x : Str} (h : x ∈ vals3) : normK kd x = x := by
  unfold normK
  split
  · rfl
  · exact norm_vals x h
theorem told_mem {fr : List Row} {as : List Pr} (hr : ∀ r ∈ fr, RowOk r) (h : ∀ p ∈ as, p.1 ∈ names4 ∧ p.2 ∈ values4) {p : Pr} (hp : p ∈ told fr as) : (p.1 ∈ names4 ∨ p.1 ∈ nms3) ∧ p.2 ∈ texts := by
  unfold told at hp
  rcases List.mem_append.mp hp with hp | hp
  · obtain ⟨q, hq, rfl⟩ := List.mem_map.mp hp
    refine ⟨.inl (h q hq).1, ?_⟩
    unfold attr1
    have := values_texts _ (h q hq).2
    cases fr.find? (fun r => r.nm = q.1) with
    | none => exact this
    | some r => exact normK_texts this
  · obtain ⟨r, hr', e⟩ := List.mem_filterMap.mp hp
    unfold attr2 at e
    split at e
    · cases e
    · cases hv : r.vl with
      | none => rw [hv] at e; cases e
      | some x =>
        rw [hv] at e
        cases e
        exact ⟨.inr (hr r hr').nm, vals_texts x ((hr r hr').vl x hv)⟩
theorem told_len {fr : List Row} {as : List Pr} : (told fr as).length ≤ as.length + fr.length := by
  unfold told
  rw [List.length_append, List.length_map]
  exact Nat.add_le_add_left (List.length_filterMap_le _ _) _
theorem told_told {fr : List Row} {as : List Pr} (hr : ∀ r ∈ fr, RowOk r) (h : ∀ p ∈ as, p.2 ∈ values4) : told fr (told fr as) = told fr as := by
  have names : ∀ r ∈ fr, attr2 (told fr as) r = none := by
    intro r hr'
    unfold attr2
    split
    · rfl
    · rename_i hn
      cases hv : r.vl with
      | none => rfl
      | some x =>
        exfalso
        apply hn
        rw [List.any_eq_true]
        refine ⟨r.nm, ?_, by simp⟩
        by_cases q : (as.map (fun x => x.1)).any (fun x => x == r.nm) = true
        · rw [List.any_eq_true] at q
          obtain ⟨y, hy, e⟩ := q
          obtain ⟨p, hp, rfl⟩ := List.mem_map.mp hy
          rw [beq_iff_eq] at e
          exact List.mem_map.mpr ⟨attr1 fr p, by unfold told; exact List.mem_append_left _ (List.mem_map.mpr ⟨p, hp, rfl⟩), e⟩
        · refine List.mem_map.mpr ⟨(r.nm, x), ?_, rfl⟩
          unfold told
          refine List.mem_append_right _ (List.mem_filterMap.mpr ⟨r, hr', ?_⟩)
          unfold attr2
          rw [if_neg q, hv]; rfl
  have e2 : fr.filterMap (attr2 (told fr as)) = [] := by
    rw [List.filterMap_eq_nil_iff]
    exact names
  have e1 : (told fr as).map (attr1 fr) = told fr as := by
    have : (told fr as).map (attr1 fr) = (told fr as).map id := by
      refine List.map_congr_left fun p hp => ?_
      unfold told at hp
      rcases List.mem_append.mp hp with hp | hp
      · obtain ⟨q, hq, rfl⟩ := List.mem_map.mp hp
        have hx := values_texts _ (h q hq)
        unfold attr1
        show (q.1, _) = (q.1, _)
        cases fr.find? (fun r => r.nm = q.1) with
        | none => rfl
        | some r => show (q.1, normK r.kd (normK r.kd q.2)) = (q.1, normK r.kd q.2); rw [normK_normK hx]
      · obtain ⟨r, hr', e⟩ := List.mem_filterMap.mp hp
        unfold attr2 at e
        split at e
        · cases e
        · cases hv : r.vl with
          | none => rw [hv] at e; cases e
          | some x =>
            rw [hv] at e
            cases e
            unfold attr1
            show (r.nm, _) = (r.nm, _)
            cases fr.find? (fun r' => r'.nm = r.nm) with
            | none => rfl
            | some r' => show (r.nm, normK r'.kd x) = (r.nm, x); rw [normK_vals ((hr r hr').vl x hv)]
    rw [this, List.map_id]
  show (told fr as).map (attr1 fr) ++ fr.filterMap (attr2 (told fr as)) = told fr as
  rw [e1, e2, List.append_nil]

theorem evSmall3 {e : Ev} (h : EvOk e) : EvSmall3 e := by
  cases e with
  | start el as => exact ⟨Nat.le_trans h.2.1 (by decide), fun p hp => small3_of (values_chk3 _ (h.2.2 p hp).2)⟩
  | fin _ => trivial
  | text _ => trivial
theorem evSmall {e : Ev} (h : EvOk e) : EvSmall e := by
  cases e with
  | start el as => exact ⟨Nat.le_trans h.2.1 (by decide), fun p hp => small2_of (texts_chk2 _ (values_texts _ (h.2.2 p hp).2))⟩
  | fin _ => trivial
  | text _ => trivial
theorem frOk {rows : List Row} {el : Str} (h : ∀ r ∈ rows, RowOk r) : ∀ r ∈ firstRows rows el, RowOk r := fun r hr => h r (firstRows_mem hr).1
theorem evSmallTold {rows : List Row} {e : Ev} (hr : ∀ r ∈ rows, RowOk r) (hl : rows.length ≤ 5) (h : EvOk e) : EvSmall (toldEv rows e) := by
  cases e with
  | start el as =>
    refine ⟨?_, fun p hp => small2_of (texts_chk2 _ (told_mem (frOk hr) h.2.2 hp).2)⟩
    exact Nat.le_trans told_len (Nat.le_trans (Nat.add_le_add h.2.1 (Nat.le_trans (firstRows_len ..) hl)) (by decide))
  | fin _ => trivial
  | text _ => trivial
theorem toldEv_due {rows : List Row} {e : Ev} (h : EvOk e) : toldEv rows e = dueEv rows e := by
  cases e with
  | start el as => show Ev.start el _ = Ev.start el _; rw [told_due fun p hp => (h.2.2 p hp).2]
  | fin _ => rfl
  | text _ => rfl
theorem toldEv_toldEv {rows : List Row} {e : Ev} (hr : ∀ r ∈ rows, RowOk r) (h : EvOk e) : toldEv rows (toldEv rows e) = toldEv rows e := by
  cases e with
  | start el as => show Ev.start el _ = Ev.start el _; rw [told_told (frOk hr) fun p hp => (h.2.2 p hp).2]
  | fin _ => rfl
  | text _ => rfl
theorem rowLay {r : Row} (h : RowOk r) : RowLay r := by
  unfold RowLay Row.d
  have e5 : (optD r.vl).canLay0 = true := by
    cases hv : r.vl with
    | none => rfl
    | some x => exact vals_ok x (h.vl x hv)
  simp only [PyData.canLay0, PyData.canLayAll0, els2_ok _ h.el, nms_ok _ h.nm, kinds_ok _ h.kd, modes_ok _ h.md, e5, Bool.and_self, Bool.and_true]
theorem pairsLay {as : List Pr} (h : ∀ p ∈ as, PyData.strOk p.1 = true ∧ PyData.strOk p.2 = true) : PyData.canLayAll0 (as.map pairD) = true :=
  canLayAll_of fun d hd => by
    obtain ⟨p, hp, rfl⟩ := List.mem_map.mp hd
    simp only [pairD, PyData.canLay0, PyData.canLayAll0, (h p hp).1, (h p hp).2, Bool.and_self, Bool.and_true]
theorem startLay {el : Str} {as : List Pr} (h1 : PyData.strOk el = true) (h : ∀ p ∈ as, PyData.strOk p.1 = true ∧ PyData.strOk p.2 = true) : (Ev.d (.start el as)).canLay0 = true := by
  have e0 : PyData.strOk (Str.ofString "start") = true := by decide +kernel
  simp only [Ev.d, PyData.canLay0, PyData.canLayAll0, e0, h1, pairsLay h, Bool.and_self, Bool.and_true]
theorem evLay {e : Ev} (h : EvOk e) : e.d.canLay0 = true := by
  cases e with
  | start el as => exact startLay (els_ok _ h.1) fun p hp => ⟨names_ok _ (h.2.2 p hp).1, texts_ok _ (values_texts _ (h.2.2 p hp).2)⟩
  | fin el =>
    have e0 : PyData.strOk (Str.ofString "end") = true := by decide +kernel
    simp only [Ev.d, PyData.canLay0, PyData.canLayAll0, e0, els_ok _ h, Bool.and_self, Bool.and_true]
  | text x =>
    cases h
    decide +kernel
theorem evLayTold {rows : List Row} {e : Ev} (hr : ∀ r ∈ rows, RowOk r) (h : EvOk e) : (toldEv rows e).d.canLay0 = true := by
  cases e with
  | start el as =>
    refine startLay (els_ok _ h.1) (fun p hp => ?_)
    have := told_mem (frOk hr) h.2.2 hp
    exact ⟨this.1.elim (names_ok _) (nms_ok _), texts_ok _ this.2⟩
  | fin el => exact evLay h
  | text x => exact evLay h
theorem pairsDepth (as : List Pr) : PyData.depthAll (as.map pairD) ≤ 1 := by
  induction as with
  | nil => simp [PyData.depthAll]
  | cons p r ih => simp only [List.map_cons, PyData.depthAll, pairD, PyData.depth]; exact Nat.max_le.mpr ⟨Nat.le_refl _, ih⟩
theorem evDepth (e : Ev) : e.d.depth ≤ 3 := by
  cases e with
  | start el as =>
    have := pairsDepth as
    exact Nat.succ_le_succ (Nat.max_le.mpr ⟨Nat.zero_le _, Nat.max_le.mpr ⟨Nat.zero_le _, Nat.max_le.mpr ⟨Nat.succ_le_succ this, Nat.zero_le _⟩⟩⟩)
  | fin _ => simp [Ev.d, PyData.depth, PyData.depthAll]
  | text _ => simp [Ev.d, PyData.depth, PyData.depthAll]
theorem evsDepth (evs : List Ev) : PyData.depthAll (evs.map Ev.d) ≤ 20 := by
  induction evs with
  | nil => simp [PyData.depthAll]
  | cons e r ih =>
    exact Nat.max_le.mpr ⟨Nat.le_trans (evDepth e) (by decide), ih⟩
theorem evsLay {evs : List Ev} (h : ∀ e ∈ evs, EvOk e) : PyData.canLayAll0 (evs.map Ev.d) = true :=
  canLayAll_of fun d hd => by
    obtain ⟨e, he, rfl⟩ := List.mem_map.mp hd
    exact evLay (h e he)
theorem evsLayTold {rows : List Row} {evs : List Ev} (hr : ∀ r ∈ rows, RowOk r) (h : ∀ e ∈ evs, EvOk e) : PyData.canLayAll0 ((evs.map (toldEv rows)).map Ev.d) = true :=
  canLayAll_of fun d hd => by
    obtain ⟨e', he', rfl⟩ := List.mem_map.mp hd
    obtain ⟨e, he, rfl⟩ := List.mem_map.mp he'
    exact evLayTold hr (h e he)

noncomputable def isAt (el nm : Str) (r : Row) : Bool := r.el == el && r.nm == nm
theorem find_head (rows : List Row) (el nm : Str) : (firstRows rows el).find? (fun r => r.nm = nm) = (rows.filter (isAt el nm)).head? := by
  refine snocRec (P := fun rows => (firstRows rows el).find? (fun r => r.nm = nm) = (rows.filter (isAt el nm)).head?) rfl (fun rows r ih => ?_) rows
  rw [firstRows_snoc, List.filter_append, List.filter_cons, List.filter_nil]
  by_cases h1 : r.el = el
  · by_cases h2 : r.nm = nm
    · have e : isAt el nm r = true := by simp [isAt, h1, h2]
      rw [e, if_pos rfl, List.head?_append, ← ih]
      cases h3 : (firstRows rows el).any (fun x => decide (x.nm = r.nm)) with
      | true =>
        rw [if_neg (by simp)]
        cases h4 : (firstRows rows el).find? (fun r => r.nm = nm) with
        | some x => rfl
        | none =>
          exfalso
          obtain ⟨y, hy, e'⟩ := List.any_eq_true.mp h3
          have := List.find?_eq_none.mp h4 y hy
          simp [h2] at e' this
          exact this e'
      | false =>
        rw [if_pos ⟨h1, by simp⟩, List.find?_append]
        simp [h2]
    · have e : isAt el nm r = false := by simp [isAt, h2]
      rw [e, if_neg (show ¬ (false = true) by decide), List.append_nil, ← ih]
      split
      · rw [List.find?_append]
        simp [h2]
      · rfl
  · have e : isAt el nm r = false := by simp [isAt, h1]
    rw [e, if_neg (show ¬ (false = true) by decide), List.append_nil, ← ih, if_neg (by simp [h1])]
theorem noName {rows : List Row} {el nm : Str} (h : ∀ r ∈ rows, RowOk r) (hn : nm ∉ nms3) : (firstRows rows el).find? (fun r => r.nm = nm) = none := by
  rw [List.find?_eq_none]
  intro r hr
  have := (h r (firstRows_mem hr).1).nm
  simp only [decide_eq_true_eq]
  rintro rfl
  exact hn this
theorem noEl {rows : List Row} {el : Str} (h : ∀ r ∈ rows, RowOk r) (hn : el ∉ els2) : firstRows rows el = [] := by
  cases e : firstRows rows el with
  | nil => rfl
  | cons r l =>
    have hm : r ∈ firstRows rows el := by rw [e]; simp
    have := firstRows_mem hm
    exact absurd (this.2 ▸ (h r this.1).el) hn
theorem rowD_lay {kd md : Str} {vl : Option Str} (h1 : PyData.strOk kd = true) (h2 : PyData.strOk md = true) (h3 : (optD vl).canLay0 = true) : (PyData.tuple [.str kd, uw, .str md, optD vl]).canLay0 = true := by
  have e0 : uw.canLay0 = true := by decide +kernel
  simp only [PyData.canLay0, PyData.canLayAll0, h1, h2, h3, e0, Bool.and_self, Bool.and_true]
theorem rowD_ok {r : Row} (h : RowOk r) : (PyData.tuple [.str r.kd, uw, .str r.md, optD r.vl]).canLay0 = true := by
  refine rowD_lay (kinds_ok _ h.kd) (modes_ok _ h.md) ?_
  cases hv : r.vl with
  | none => rfl
  | some x => exact vals_ok x (h.vl x hv)
theorem rowD_depth {kd md : Str} {vl : Option Str} : (PyData.tuple [.str kd, uw, .str md, optD vl]).depth ≤ 20 := by
  cases vl <;> simp [PyData.depth, PyData.depthAll, uw, optD]
theorem pairOk {r : Row} (h : RowOk r) : (PyData.tuple [.str r.el, .str r.nm]).canLay0 = true := by
  simp only [PyData.canLay0, PyData.canLayAll0, els2_ok _ h.el, nms_ok _ h.nm, Bool.and_self, Bool.and_true]
theorem pairDepth2 {a b : Str} : (PyData.tuple [.str a, .str b]).depth ≤ 20 := by simp [PyData.depth, PyData.depthAll]
end
section
section
variable {prog : Program} {w : World} {A : Around} {E : Value → Shared → Prop} {s s₀ : Shared} {B : Heap} {L : Addr} {m : Str → Option Value} {own : List (Addr × Obj)} {env : Env}
theorem pool_st {k : Nat} {src : Addr} {vs : List Value} {ns : List Int} {j : Int} {tt : Tok} {Q : Value → Shared → Prop} (R : Room prog (k + 1) A) (S : St s₀ B L m own s) (G : Gl w B) (hl : B.IsList src vs.toArray) (hI : IntsAre vs ns) (hn : vs.length ≤ 63) (hj : 0 ≤ j ∧ j ≤ 2)
  (h : ∀ s' a o, Pool o → St s₀ B L m ((a, o) :: own) s' → Q (.ref a) s') : wpAny (model prog w) A (call (.ref 203) [.ref src, .int j tt]) Q E s :=
  pool_ok R (G.ext S.keep) (hl.at fun o e => S.keep _ _ e) hI hn hj fun s' a o hp ho hn D => h s' a o hp (S.gain hn (S.call0 D) ho rfl)
theorem rules_st {k : Nat} {src : Addr} {o : Obj} {Q : Value → Shared → Prop} (R : Room prog (k + 3) A) (S : St s₀ B L m ((src, o) :: own) s) (G : Gl w B) (hp : Pool o) (nt : ∀ p ∈ own, NT p.2)
  (h : ∀ s' B' a vs (rows : List Row) o', Ext B B' → (∀ r ∈ rows, RowOk r) → rows.length ≤ 5 → TRs B' vs (rows.map Row.d) → B'.IsList a vs.toArray → Pool o' → St s₀ B' L m ((src, o') :: own) s' → Q (.ref a) s') :
  wpAny (model prog w) A (call (.ref 224) [.ref src]) Q E s :=
  rules_ok R (S.glX G mem1) (S.at .head).1 hp fun s' a oa vs rows o' h1 h2 h3 h4 h5 h6 h7 h8 D => by
    have S' := S.callAt .head D h8
    have S₂ := S.gain h6 S' h5 rfl
    obtain ⟨B', hB, S₃, ht, hg⟩ := S₂.settle1 (ntC h7.nt nt)
    exact h s' B' a vs rows o' hB h1 h2 (h4.move ht) (h3.isList hg) h7 S₃
theorem events_st {k : Nat} {src : Addr} {o : Obj} {Q : Value → Shared → Prop} (R : Room prog (k + 3) A) (S : St s₀ B L m ((src, o) :: own) s) (G : Gl w B) (hp : Pool o) (nt : ∀ p ∈ own, NT p.2)
  (h : ∀ s' B' a vs (evs : List Ev) o', Ext B B' → (∀ e ∈ evs, EvOk e) → evs.length ≤ 5 → TRs B' vs (evs.map Ev.d) → B'.IsList a vs.toArray → Pool o' → St s₀ B' L m ((src, o') :: own) s' → Q (.ref a) s') :
  wpAny (model prog w) A (call (.ref 234) [.ref src]) Q E s :=
  events_ok R (S.glX G mem1) (S.at .head).1 hp fun s' a oa vs evs o' h1 h2 h3 h4 h5 h6 h7 h8 D => by
    have S' := S.callAt .head D h8
    have S₂ := S.gain h6 S' h5 rfl
    obtain ⟨B', hB, S₃, ht, hg⟩ := S₂.settle1 (ntC h7.nt nt)
    exact h s' B' a vs evs o' hB h1 h2 (h4.move ht) (h3.lo.isList hg) h7 S₃
theorem Build.zero {H : Heap} : Build prog w H [] emptyDict [] [] := ⟨isDict0, Nat.le_refl _, fun _ => rfl, (fun _ _ _ h => by cases h), by simp⟩
theorem Build.keeps {H H' : Heap} {rows : List Row} {oA : Obj} {ds : List (Addr × Obj)} {T : List (Str × Value)} (b : Build prog w H rows oA ds T) (e : Ext H H') : Build prog w H' rows oA ds T :=
  ⟨b.dict, b.len, fun el => by
    have := b.at_ el
    cases q : valueAt T el with
    | none => rw [q] at this; exact this
    | some v =>
      rw [q] at this
      refine hide ?_
      intro Z_ hZ_
      obtain ⟨d, od, kvs, h1, h2, h3, h4, h5⟩ := this
      refine hZ_ ?_
      clear hZ_ Z_
      exact ⟨d, od, kvs, h1, h2, h3, h4, h5.keeps e⟩, b.inj, b.nt⟩
theorem Build.ntA {H : Heap} {rows : List Row} {oA : Obj} {ds : List (Addr × Obj)} {T : List (Str × Value)} (b : Build prog w H rows oA ds T) : NT oA := by
  refine hide ?_
  intro Z_ hZ_
  obtain ⟨es, n, _, hd, _⟩ := b.dict
  refine hZ_ ?_
  clear hZ_ Z_
  exact NT.dict hd
theorem ruleSettle {x dx ch : Addr} {od : Obj} {kd md : Str} {t1 t3 : Tok} {v : Value} {vl : Option Str} (S : St s₀ B L m ((x, instObj 73 dx) :: (dx, od) :: own) s) (h : RuleD (.str kd t1) (.str md t3) v ch od) (hc : TR B (.ref ch) uw) (hv : TR B v (optD vl)) (nt : ∀ p ∈ own, NT p.2) :
    ∃ B', A3 (Ext B B') (RuleAt B' x kd md vl) (St s₀ B' L m own s) := by
  obtain ⟨B', hB, S', _, hin⟩ := S.settle (.cons _ (.cons _ (.refl own))) nt
  have nd := S.nd
  simp only [List.map_cons, List.nodup_cons, List.mem_cons, not_or] at nd
  refine hide ?_
  intro Z_ hZ_
  obtain ⟨es, n, rfl, h1, h2, h3, h4, h5⟩ := h
  refine hZ_ ?_
  clear hZ_ Z_
  refine ⟨B', hB, ⟨dx, es, n, t1, t3, v, ch, hin _ _ (S.ow _ (List.mem_cons_self ..)).1 (S.ow _ (List.mem_cons_self ..)).2.1 nd.1.2, hin _ _ (S.ow (dx, _) (by first | exact i0 | exact i1 | exact i2 | exact i3 | exact i4 | simp)).1 (S.ow (dx, dictOf es n) (by first | exact i0 | exact i1 | exact i2 | exact i3 | exact i4 | simp)).2.1 nd.2.1, h1, h2, hc.keeps hB, h3, h4, hv.keeps hB, h5⟩, S'⟩
theorem dtdSettle {x aA : Addr} {oA : Obj} {ds pre : List (Addr × Obj)} {T : List (Str × Value)} {rows : List Row} (S : St s₀ B L m (pre ++ (aA, oA) :: ds) s) (b : Build prog w B rows oA ds T) (hdt : DtdAt B x aA) (hA : (aA == sysModules) = false) (nt : ∀ p ∈ pre, NT p.2) :
    ∃ B', A3 (Ext B B') (DtdOk prog w B' x rows) (St s₀ B' L m pre s) := by
  obtain ⟨B', hB, S', _, hin⟩ := S.settle (List.sublist_append_left pre ((aA, oA) :: ds)) nt
  have nd := S.nd
  rw [List.map_append, List.nodup_append] at nd
  have there : ∀ p ∈ (aA, oA) :: ds, B'.get? p.1 = some p.2 := fun p hp => by
    have z := S.ow p (List.mem_append_right _ hp)
    refine hin _ _ z.1 z.2.1 fun hm => ?_
    exact nd.2.2 _ hm _ (List.mem_map.mpr ⟨p, hp, rfl⟩) rfl
  refine ⟨B', hB, ⟨aA, T, hdt.keeps hB, DS.of (there (aA, oA) (by simp)) hA b.dict, fun el => ?_⟩, S'⟩
  have q := b.at_ el
  cases e : valueAt T el with
  | none => rw [e] at q; exact q
  | some v =>
    rw [e] at q
    refine hide ?_
    intro Z_ hZ_
    obtain ⟨d, od, kvs, h1, h2, h3, h4, h5⟩ := q
    refine hZ_ ?_
    clear hZ_ Z_
    exact ⟨d, kvs, h1, DS.of (there (d, od) (by simp [h2])) h3 h4, h5.keeps hB⟩
theorem with_st {k : Nat} {x l : Addr} {rows : List Row} {evs : List Ev} {vs : List Value} {Q : Value → Shared → Prop} (R : Room prog (k + 7) A) (S : St s₀ B L m own s) (G : Gl w B) (r : DtdOk prog w B x rows) (hrl : rows.length ≤ 5)
  (hl : B.IsList l vs.toArray) (hv : TRs B vs (evs.map Ev.d)) (hn : evs.length ≤ 10) (hsm : ∀ e ∈ evs, EvSmall e) (nt : ∀ p ∈ own, NT p.2)
  (h : ∀ s' B' a vs', Ext B B' → B'.IsList a (List.toArray vs') → TRs B' vs' ((evs.map (toldEv rows)).map Ev.d) → St s₀ B' L m own s' → Q (.ref a) s') :
  wpAny (model prog w) A (call (.ref 91) [.ref l, .ref x]) Q E s :=
  with_ok R (G.ext S.keep) S.keep r hrl (hl.at fun o e => S.keep _ _ e) (hv.keeps S.keep) hn hsm fun s' a o vs' ho hg hf ht D => by
    have S₁ := S.gain hf (S.call0 D) hg rfl
    obtain ⟨B', hB, S₂, htu, hg'⟩ := S₁.settle1 nt
    exact h s' B' a vs' hB (ho.lo.isList hg') (ht.move htu) S₂
theorem neLists {a b : Addr} {va vb : List Value} {ds : List PyData} {k : Nat} {Q : Value → Shared → Prop} (R : Room prog k A) (ha : s.heap.IsList a va.toArray) (hb : s.heap.IsList b vb.toArray) (ra : TRs s.heap va ds) (rb : TRs s.heap vb ds) (hc : PyData.canLayAll0 ds = true) (hd : PyData.depthAll ds ≤ 20) (h : Q (.bool false) s) :
    wpAny (model prog w) A (compareOp .NotEq (.ref a) (.ref b)) Q E s := by
  refine hide ?_
  intro Z_ hZ_
  obtain ⟨oa, ga, ca, na, da⟩ := ha
  obtain ⟨ob, gb, cb, nb, db⟩ := hb
  refine hZ_ ?_
  clear hZ_ Z_
  have r1 : Reads s.heap (.ref a) (.list ds) [a] := Reads.list ga ca da (by simpa using ra)
  have r2 : Reads s.heap (.ref b) (.list ds) [b] := Reads.list gb cb db (by simpa using rb)
  have hl : (PyData.list ds).canLay0 = true := by simpa [PyData.canLay0] using hc
  refine SeqAt.compareNe_reads r1 r2 hl hl ?_ (by rw [SeqAt.eqv_refl _ hl]; exact h)
  rw [Nat.min_self]
  simp only [PyData.depth]
  exact Nat.lt_of_le_of_lt (Nat.add_le_add_left (Nat.succ_le_succ hd) _) (R.ult (x := 21) (by decide))
end
theorem enterS {prog : Program} {w : World} {A : Around} {t : Sem Flow} {Q : Flow → Shared → Prop} {E : Value → Shared → Prop} {s₁ s : Shared} {L : Addr} {m : Str → Option Value} {own : List (Addr × Obj)} (F : Fr s₁.heap L s.heap m) (N : News s₁.heap L s.heap own) (hn : s₁.heap.get? L = none) (nd : (own.map (·.1)).Nodup) (hg : s.gens = s₁.gens) (ho : s.os = s₁.os)
    (h : St s₁ s₁.heap L m own s → wpAny (model prog w) A t Q E s) : wpAny (model prog w) A t Q E s := h ⟨hg, ho, F.ns, F.keep, hn, N, nd⟩
theorem St.fr {s₁ s : Shared} {L : Addr} {m : Str → Option Value} {own : List (Addr × Obj)} (S : St s₁ s₁.heap L m own s) (h : s₁.heap.objs.size ≤ L) : Fr s₁.heap L s.heap m := ⟨S.ns, S.keep, h⟩
theorem enterRoom {prog : Program} {w : World} {env : Env} {t : Sem Flow} {Q : Flow → Shared → Prop} {E : Value → Shared → Prop} {s : Shared} (h1 : PlainEnv env) (ht : prog.given.tree = none)
    (h : ∀ (A : Around) (K : Flow → Shared → Prop), (∀ f s', Q f s' → K f s') → Room prog 40 A → wpAny (model prog w) A t K (fun _ _ => False) s) :
    wpAny (model prog w) (callerA.deeper env) t Q E s :=
  wpAny_mono (h _ Q (fun _ _ x => x) ⟨rfl, by rw [depth_deeper]; decide +kernel, by rw [units_deeper]; decide +kernel, ⟨_, _, rfl, h1⟩, ht⟩) (fun _ _ q => q) fun _ _ e => e.elim
theorem nd3 (n : Nat) : [n + 1 + 1 + 1, n + 1 + 1, n + 1].Nodup := by
  simp
  omega
abbrev ow4 (L : Addr) (c1 c2 c3 : Obj) (X : List (Addr × Obj)) : List (Addr × Obj) := (L + 1 + 1 + 1, c1) :: (L + 1 + 1, c2) :: (L + 1, c3) :: X
abbrev ow3 (L : Addr) (c1 c2 c3 : Obj) : List (Addr × Obj) := [(L + 1 + 1 + 1, c1), (L + 1 + 1, c2), (L + 1, c3)]
theorem or3 {r a : Int} (h : r = 1 ∨ r = a) (ha : a ≤ 3) : r ≤ 3 := h.elim (fun e => e ▸ by decide) fun e => e ▸ ha
theorem law_main : PySem.Challenge.rw_nu0044_01.Holds := hd (by
  k_go0
  rename_i w s₀ s₁ mg mb G0 Y fa o pm doc ho hg KX X V GL T B TE TW b1 b2 M cd cdt hcd ns hs hlay0 hL1 hr1 hl2 x7 x6 src vs x3 hL ra w1 r0 hI hr hc1 hc2 K0 hD h₁ tk₁ F o1 o2 o3 co1 co2 co3 N X0
  have G : Gl w s₁.heap := Gl.mk KX ⟨_, T.g⟩ ⟨_, T.b, T.builtins⟩ T.nolimit (T.seer (by decide +kernel))
  refine enterS F N (get_size _) (nd3 _) rfl rfl ?_
  intro S
  have hvn : vs.length = ns.length := IntsAre.length hI
  replace co1 : CO none o1 := co1
  replace co2 : CO none o2 := co2
  replace co3 : CO none o3 := co3
  refine enterRoom ⟨rfl, rfl, rfl, rfl⟩ rfl ?_
  intro AA KK hKK R
  try dsimp only
  obtain ⟨LL, hLL⟩ : ∃ x, s₁.heap.objs.size = x := ⟨_, rfl⟩
  rw [hLL] at S ⊢
  have hvs : vs.length ≤ 63 := Nat.le_trans (Nat.le_of_eq hvn) (Int.ofNat_le.mp (Int.not_lt.mp (by assumption)))
  clear G0 Y X V GL T B TE TW M hcd hs hlay0 hL1 hr1 hl2 ra w1 r0 hr hc1 K0 hD F N X0 ho KX
  walk_at "w"
  refine forRange R (Int.le_trans (b := 1) (by decide) (by assumption)) (Int.le_trans (b := 3) (or3 (by assumption) (by assumption)) (by decide)) (fun I v s Q hq => let_name I v s Q hq) (fun (i : Nat) (B : Heap) m own => E6 fun c1 c2 c3 v1 v2 v3 => A5 (own = ow3 LL c1 c2 c3) (CO v1 c1) (CO v2 c2) (CO v3 c3) (m (Str.ofString "script") = some (.ref src))) ‹_› ?_ ?_ ?_
  · exact ⟨o1, o2, o3, _, _, _, rfl, co1, co2, co3, by walk_at "lk"⟩
  · intro i ti B' m' own' s₂ p hi hB hJ hnp S₂
    refine hide ?_
    intro Z_ hZ_
    obtain ⟨c1, c2, c3, v1, v2, v3, rfl, hc1, hc2, hc3, hm⟩ := hJ
    refine hZ_ ?_
    clear hZ_ Z_
    refine assName S₂ ?_
    intro s₃ S₃
    have hG := G.ext hB
    have hlB := hL.at fun o e => hB _ _ e
    clear G hL S
    walk_at "w"
    refine pool_st (k := 30) (R.le (by decide)) (by assumption) hG hlB hI hvs ⟨Int.natCast_nonneg _, Int.le_of_lt_add_one (Int.lt_of_lt_of_le (Int.lt_toNat.mp hi) (or3 (by assumption) (by assumption)))⟩ ?_
    intro s₄ sa so hpo S₄
    walk_at "w"
    refine Assign_Tuple ?_
    walk_at "w"
    have nto : ∀ q ∈ p :: ow3 LL c1 c2 c3, NT q.2 := ntC hnp (ntC hc1.nt (ntC hc2.nt (ntC hc3.nt ntN)))
    refine rules_st (k := 30) (R.le (by decide)) (by assumption) hG hpo nto ?_
    intro s₅ B₂ ra rvs rows so₂ hB₂ hrok hrl hrv hrL hpo₂ S₅
    replace hG := hG.ext hB₂
    walk_at "w"
    refine events_st (k := 30) (R.le (by decide)) (by assumption) hG hpo₂ nto ?_
    intro s₆ B₃ ea evs_ evs so₃ hB₃ hevok hel hev heL hpo₃ S₆
    replace hG := hG.ext hB₃
    replace hrv := hrv.keeps hB₃
    replace hrL : B₃.IsList ra rvs.toArray := hrL.at fun o e => hB₃ _ _ e
    have hBB := (hB.trans hB₂).trans hB₃
    clear hlB S₅ S₄ hB₂ hB₃ hB
    walk_at "w"
    have S₇ := (‹St _ _ _ _ _ _›)
    refine assTup R S₇ ⟨_, (S₇.at .head).1, rfl, _, rfl⟩ ?_
    intro s₈ S₈
    refine wpAny_assignInOrder_more (assCell (by rfl) S₈ (by walk_at "at") hc3 ?_)
    intro s₉ c3' hc3' S₉
    refine assCons (assName S₉ ?_)
    intro s₁₀ S₁₀
    refine assNil ?_
    replace S₁₀ : St _ _ _ _ (p :: ow3 LL c1 c2 c3') _ := S₁₀.drop.drop
    clear S₉ S₈ S₇ S₆ S₃ S₂ hpo₃ hpo₂ hpo
    walk_at "w"
    refine dtdNew (k := 30) (R.le (by decide)) (by assumption) hG ?_ (ntC hnp (ntC hc1.nt (ntC hc2.nt (ntC hc3'.nt ntN))))
    intro B₄ dt aA s₁₁ hB₄ hdt haA S₁₁
    replace hG := hG.ext hB₄
    replace hrv := hrv.keeps hB₄
    replace hev := hev.keeps hB₄
    replace hrL : B₄.IsList ra rvs.toArray := hrL.at fun o e => hB₄ _ _ e
    replace heL : B₄.IsList ea evs_.toArray := heL.at fun o e => hB₄ _ _ e
    replace hBB := hBB.trans hB₄
    clear hB₄ S₁₀ nto
    walk_at "w"
    have S₁₂ := (‹St _ _ _ _ _ _›)
    have hrn : rvs.length = rows.length := lenM hrv
    refine forList R hrL (letD rowTup hrv) (fun (i : Nat) (B : Heap) m own => E7 fun oA ds T c1 c2 v1 v2 => A7 (own = p :: ow4 LL c1 c2 c3' ((aA, oA) :: ds)) (Build PySem.Challenge.rw_nu0044_01.row.prog w B (rows.take i) oA ds T) (CO v1 c1) (CO v2 c2) (m (Str.ofString "dtd") = some (.ref dt)) (m (Str.ofString "events") = some (.ref ea)) (m (Str.ofString "script") = some (.ref src)))
      (S₁₂.perm (own' := p :: ow4 LL c1 c2 c3' ((aA, emptyDict) :: [])) (List.perm_append_comm (l₁ := p :: ow3 LL c1 c2 c3') (l₂ := [(aA, emptyDict)]))) ?_ ?_ ?_
    · exact ⟨emptyDict, [], [], c1, c2, _, _, rfl, by rw [List.take_zero]; exact Build.zero, hc1, hc2, by walk_at "lk", by walk_at "lk", by walk_at "lk"⟩
    · intro i v B₅ m own s₂ p₂ hvi hB₅ hx0 hnp₂ S₂
      refine hide ?_
      intro Z_ hZ_
      obtain ⟨oA, ds, T, c1, c2, v1, v2, rfl, hb, hc1, hc2, hm1, hm2, hm3⟩ := hx0
      obtain ⟨r₁, hr₁, h2⟩ := datIs hrv hvi
      obtain ⟨rwa, t1, t2, t3, t4, u5, ev_, hrt, hru⟩ := (h2.keeps hB₅).row
      refine hZ_ ?_
      clear hZ_ Z_ hvi
      subst ev_
      have hG := hG.ext hB₅
      have hdt' := hdt.keeps hB₅
      obtain ⟨dx, des, dn, g1, g2, ga1, ga2, ga3, ga4⟩ := id hdt'
      refine assTup R S₂ (IsTup.keeps hrt S₂.keep) ?_
      intro s₃ S₃
      refine wpAny_assignInOrder_more (assCell (by rfl) S₃ (by walk_at "at") hc2 ?_)
      intro s₄ c2' hc2' S₄
      refine wpAny_assignInOrder_more (assCell (by rfl) S₄ (by walk_at "at") hc1 ?_)
      intro s₅ c1' hc1' S₅
      refine assCons (assName S₅ ?_)
      intro s₆ S₆
      refine assCons (assName S₆ ?_)
      intro s₇ S₇
      refine assCons (assName S₇ ?_)
      intro s₈ S₈
      refine assNil ?_
      clear S₂ S₃ S₄ S₅ S₆ S₇
      replace S₈ : St _ _ _ _ (p₂ :: p :: ow4 LL c1' c2' c3' ((aA, oA) :: ds)) _ := S₈
      walk_at "w"
      have S₉ := (‹St _ _ _ _ _ _›)
      have ntr : ∀ q ∈ p₂ :: p :: ow4 LL c1' c2' c3' ((aA, oA) :: ds), NT q.2 := ntC hnp₂ (ntC hnp (ntC hc1'.nt (ntC hc2'.nt (ntC hc3'.nt (ntC hb.ntA hb.nt)))))
      obtain ⟨B₆, hB₆, S₁₃, _, hgc⟩ := S₉.settle1 ntr
      have hch : TR B₆ (.ref _) uw := TR.mk ⟨_, hgc, rfl, _, rfl⟩ (.mk (Reads.str _ _) (.mk (Reads.str _ _) ReadsAll.nil))
      have hG₆ := hG.ext hB₆
      clear S₉ hgc
      refine ruleNew (k := 30) (R.le (by decide)) S₁₃ hG₆ hch ?_
      intro xr dxr odr s₉ hrd S₁₄
      refine hide ?_
      intro Z_ hZ_
      obtain ⟨B₇, hB₇, hra, S₁₅⟩ := ruleSettle S₁₄ hrd hch (hru.keeps hB₆) ntr
      refine hZ_ ?_
      clear hZ_ Z_
      have hE₇ := hB₆.trans hB₇
      have hdt₇ := hdt'.keeps hE₇
      have hb₇ := hb.keeps hE₇
      have hG₇ := hG.ext hE₇
      clear S₁₃ S₁₄ hch hrd hG hG₆ hb hdt'
      walk_at "w"
      have S₁₆ := (‹St _ _ _ _ _ _›)
      have hi5 : i < rows.length := (List.getElem?_eq_some_iff.mp hr₁).1
      refine declare_ok (k := 30) (r := r₁) (own := p₂ :: p :: ow3 LL c1' c2' c3') (R.le (by decide)) (S₁₆.perm (List.perm_append_comm (l₁ := (aA, oA) :: ds) (l₂ := p₂ :: p :: ow3 LL c1' c2' c3'))) hG₇ hdt₇ haA hb₇ hra (Nat.le_trans (List.length_take_le' ..) (Nat.le_trans hrl (by decide))) ?_
      intro s₁₇ oA' ds' T' hb' S₁₇
      have S₁₈ := S₁₇.perm (own' := p₂ :: p :: ow4 LL c1' c2' c3' ((aA, oA') :: ds')) (List.perm_append_comm (l₁ := p₂ :: p :: ow3 LL c1' c2' c3') (l₂ := (aA, oA') :: ds'))
      clear S₁₆ S₁₇
      walk_at "w"
      refine TurnEnd.mk (p := p₂) ‹_› (hB₅.trans hE₇) ⟨oA', ds', T', c1', c2', _, _, rfl, ?_, hc1', hc2', by walk_at "lk", by walk_at "lk", by walk_at "lk"⟩
      rw [List.take_add_one, hr₁]; exact hb'
    · intro B₅ m own s₂ hB₅ hx0 S₂
      refine hide ?_
      intro Z_ hZ_
      obtain ⟨oA, ds, T, c1, c2, v1, v2, rfl, hb, hc1, hc2, hm1, hm2, hm3⟩ := hx0
      refine hZ_ ?_
      clear hZ_ Z_
      rw [hrn, List.take_length] at hb
      have nto : ∀ q ∈ p :: ow3 LL c1 c2 c3', NT q.2 := ntC hnp (ntC hc1.nt (ntC hc2.nt (ntC hc3'.nt ntN)))
      refine hide ?_
      intro Z_ hZ_
      obtain ⟨B₆, hB₆, hok, S₃⟩ := dtdSettle (pre := p :: ow3 LL c1 c2 c3') S₂ hb (hdt.keeps hB₅) haA nto
      refine hZ_ ?_
      clear hZ_ Z_
      have hE := hB₅.trans hB₆
      replace hG := hG.ext hE
      replace hrv := hrv.keeps hE
      replace hev := hev.keeps hE
      replace hrL : B₆.IsList ra rvs.toArray := hrL.at fun o e => hE _ _ e
      replace heL : B₆.IsList ea evs_.toArray := heL.at fun o e => hE _ _ e
      replace hBB := hBB.trans hE
      clear hE hB₆ hB₅ S₂ hb hdt S₁₂ S₁₁
      have hevn : evs_.length = evs.length := lenM hev
      walk_at "w"
      refine exSwap (names := [Str.ofString "kept", Str.ofString "due"]) R ?_ (by rfl) (by rfl)
      walk_at "w"
      refine listOfL (by assumption) (heL.at fun o e => (St.keep ‹_›) _ _ e) (by first | walk_at "fit" | omega) ?_
      intro s₄ ka ko hko S₄
      walk_at "w"
      refine compHead (by with_unfolding_all rfl) (by rfl) (by decide) ?_
      walk_at "w"
      refine compList R heL (by first | walk_at "fit" | omega) (fun I i v s Q _ _ hq => let_name I v s Q hq) (by decide) (by rfl) (fun (j : Nat) (acc : List Value) (B : Heap) (own : List (Addr × Obj)) => own = (ka, ko) :: p :: ow3 LL c1 c2 c3' ∧ TRs B acc (((evs.take j).map (dueEv rows)).map Ev.d)) S₄ ⟨rfl, ReadsAll.nil⟩ ?_ ?_
      · intro C j v acc B₇ mc own s p₂ d q hvj hB₇ hx0 hal hd hq hp2 hq2 S₅
        refine hide ?_
        intro Z_ hZ_
        obtain ⟨rfl, hacc⟩ := hx0
        obtain ⟨e, he, h3⟩ := datIs hev hvj
        refine hZ_ ?_
        clear hZ_ Z_
        have hG₇ := hG.ext hB₇
        have heo := hevok e (List.mem_of_getElem? he)
        refine assName S₅ ?_
        intro s₇ S₆
        refine tests0 ?_
        refine (if_pos rfl).mpr ?_
        walk_at "w"
        refine due_ok (k := 30) (R.le (by decide)) (hG₇.ext (St.keep ‹_›)) ((hrL.at fun o e => hB₇ _ _ e).at fun o e => (St.keep ‹_›) _ _ e) ((hrv.keeps hB₇).keeps (St.keep ‹_›)) hrl (fun r hr => rowLay (hrok r hr)) ((h3.keeps hB₇).keeps (St.keep ‹_›)) (evSmall3 heo) ?_
        intro s₈ v' D hv'
        have S₇ := (‹St _ _ _ _ _ _›).call0 D
        obtain ⟨B₈, hB₈, S₈, ht₈, _⟩ := S₇.settle (List.Sublist.refl _) (ntC hp2 (ntC hd.lo.nt (ntC hq2 (ntC hko.lo.nt (ntC hnp (ntC hc1.nt (ntC hc2.nt (ntC hc3'.nt ntN))))))))
        refine CompEnd.mk S₈ (hB₇.trans hB₈) ⟨rfl, ?_⟩
        rw [toldTake he, List.map_append]
        exact (hacc.keeps hB₈).snoc (hv'.move ht₈)
      · intro acc B₇ own s hx0 hB₇ hx1 hal hd S₅
        refine hide ?_
        intro Z_ hZ_
        obtain ⟨da, dob⟩ := hx0
        obtain ⟨rfl, hacc⟩ := hx1
        refine hZ_ ?_
        clear hZ_ Z_
        rw [hevn, List.take_length] at hacc
        replace hd : LX acc dob := hd
        replace hG := hG.ext hB₇
        walk_at "w"
        walk_at "sw"
        walk_at "w"
        have S₆ := (‹St _ _ _ _ _ _›).drop
        refine hide ?_
        intro Z_ hZ_
        obtain ⟨B₈, hB₈, S₇, _, hgd⟩ := S₆.settle1 (ntC hko.lo.nt (ntC hnp (ntC hc1.nt (ntC hc2.nt (ntC hc3'.nt ntN)))))
        obtain ⟨B₉, hB₉, S₈, _, hgk⟩ := S₇.settle1 (ntC hnp (ntC hc1.nt (ntC hc2.nt (ntC hc3'.nt ntN))))
        refine hZ_ ?_
        clear hZ_ Z_
        have hE := (hB₇.trans hB₈).trans hB₉
        have hdue : B₉.IsList da acc.toArray := hd.lo.isList (hB₉ _ _ hgd)
        have hkept : B₉.IsList ka evs_.toArray := hko.lo.isList hgk
        replace hacc := hacc.keeps (hB₈.trans hB₉)
        replace hG := hG.ext (hB₈.trans hB₉)
        replace hrv := hrv.keeps hE
        replace hev := hev.keeps hE
        replace hrL : B₉.IsList ra rvs.toArray := hrL.at fun o e => hE _ _ e
        replace heL : B₉.IsList ea evs_.toArray := heL.at fun o e => hE _ _ e
        replace hok := hok.keeps hE
        replace hBB := hBB.trans hE
        clear hE hB₉ hB₈ hB₇ S₆ S₇ hgd hgk S₅ S₄
        refine with_st (k := 30) (R.le (by decide)) S₈ hG hok hrl heL hev (Nat.le_trans hel (by decide)) (fun e he => evSmall (hevok e he)) nto ?_
        intro s₉ B₇ ta tvs hB₇ htL htv S₉
        have e1 : evs.map (toldEv rows) = evs.map (dueEv rows) := List.map_congr_left fun e he => toldEv_due (hevok e he)
        have e2 : (evs.map (toldEv rows)).map (toldEv rows) = evs.map (toldEv rows) := by
          rw [List.map_map]
          exact List.map_congr_left fun e he => toldEv_toldEv hrok (hevok e he)
        have hlay := evsLayTold hrok hevok
        have hdep := evsDepth (evs.map (toldEv rows))
        rw [← e1] at hacc
        replace hacc := hacc.keeps hB₇
        replace hG := hG.ext hB₇
        replace hrv := hrv.keeps hB₇
        replace hev := hev.keeps hB₇
        replace hrL : B₇.IsList ra rvs.toArray := hrL.at fun o e => hB₇ _ _ e
        replace heL : B₇.IsList ea evs_.toArray := heL.at fun o e => hB₇ _ _ e
        replace hdue : B₇.IsList da acc.toArray := hdue.at fun o e => hB₇ _ _ e
        replace hkept : B₇.IsList ka evs_.toArray := hkept.at fun o e => hB₇ _ _ e
        replace hok := hok.keeps hB₇
        replace hBB := hBB.trans hB₇
        clear hB₇ S₈
        walk_at "w"
        refine neLists R (htL.at fun o e => (St.keep ‹_›) _ _ e) (hdue.at fun o e => (St.keep ‹_›) _ _ e) (htv.keeps (St.keep ‹_›)) (hacc.keeps (St.keep ‹_›)) hlay hdep ?_
        walk_at "w"
        refine neLists R (heL.at fun o e => (St.keep ‹_›) _ _ e) (hkept.at fun o e => (St.keep ‹_›) _ _ e) (hev.keeps (St.keep ‹_›)) (hev.keeps (St.keep ‹_›)) (evsLay hevok) (evsDepth evs) ?_
        walk_at "w"
        refine with_st (k := 30) (R.le (by decide)) ‹_› hG hok hrl htL htv (by rw [List.length_map]; exact Nat.le_trans hel (by decide)) (fun e' he' => by obtain ⟨e, he, rfl⟩ := List.mem_map.mp he'; exact evSmallTold hrok hrl (hevok e he)) nto ?_
        intro s₁₀ B₈ t2a t2vs hB₈ ht2L ht2v S₁₀
        rw [e2] at ht2v
        replace hacc := hacc.keeps hB₈
        replace hG := hG.ext hB₈
        replace hrv := hrv.keeps hB₈
        replace hrL : B₈.IsList ra rvs.toArray := hrL.at fun o e => hB₈ _ _ e
        replace hdue : B₈.IsList da acc.toArray := hdue.at fun o e => hB₈ _ _ e
        replace hok := hok.keeps hB₈
        replace hBB := hBB.trans hB₈
        clear hev heL hkept htL htv
        clear hB₈ S₉
        walk_at "w"
        refine neLists R (ht2L.at fun o e => (St.keep ‹_›) _ _ e) (hdue.at fun o e => (St.keep ‹_›) _ _ e) (ht2v.keeps (St.keep ‹_›)) (hacc.keeps (St.keep ‹_›)) hlay hdep ?_
        clear ht2L hdue ht2v hacc hlay hdep e1 e2
        walk_at "w"
        refine forList R hrL (letD rowTup hrv) (fun (i : Nat) (B : Heap) m own => E4 fun c1 c2 v1 v2 => A5 (own = p :: ow3 LL c1 c2 c3') (CO v1 c1) (CO v2 c2) (m (Str.ofString "dtd") = some (.ref dt)) (m (Str.ofString "script") = some (.ref src))) ‹_› ?_ ?_ ?_
        · exact ⟨c1, c2, _, _, rfl, hc1, hc2, by walk_at "lk", by walk_at "lk"⟩
        · intro i v B₉ m own s₂ p₂ hvi hB₉ hx0 hnp₂ S₂
          refine hide ?_
          intro Z_ hZ_
          obtain ⟨c1, c2, v1, v2, rfl, hc1, hc2, hm1, hm2⟩ := hx0
          obtain ⟨r₁, hr₁, h2⟩ := datIs hrv hvi
          obtain ⟨rwa, t1, t2, t3, t4, u5, ev_, hrt, hru⟩ := (h2.keeps hB₉).row
          refine hZ_ ?_
          clear hZ_ Z_ hvi
          subst ev_
          have hro := hrok r₁ (List.mem_of_getElem? hr₁)
          have hG := hG.ext hB₉
          have hrv₉ := hrv.keeps hB₉
          have hrL₉ : B₉.IsList ra rvs.toArray := hrL.at fun o e => hB₉ _ _ e
          have hok₉ := hok.keeps hB₉
          obtain ⟨aA₂, T₂, ⟨dx₂, es₂, n₂, g1, g2, ga1, ga2, ga3, ga4⟩, _, _⟩ := id hok₉
          refine assTup R S₂ (IsTup.keeps hrt S₂.keep) ?_
          intro s₃ S₃
          refine wpAny_assignInOrder_more (assCell (by rfl) S₃ (by walk_at "at") hc2 ?_)
          intro s₄ c2' hc2' S₄
          refine wpAny_assignInOrder_more (assCell (by rfl) S₄ (by walk_at "at") hc1 ?_)
          intro s₅ c1' hc1' S₅
          refine assCons (assName S₅ ?_)
          intro s₆ S₆
          refine assCons (assName S₆ ?_)
          intro s₇ S₇
          refine assCons (assName S₇ ?_)
          intro s₈ S₈
          refine assNil ?_
          clear S₂ S₃ S₄ S₅ S₆ S₇
          replace S₈ : St _ _ _ _ (p₂ :: p :: ow3 LL c1' c2' c3') _ := S₈
          have nt₂ : ∀ q ∈ p₂ :: p :: ow3 LL c1' c2' c3', NT q.2 := ntC hnp₂ (ntC hnp (ntC hc1'.nt (ntC hc2'.nt (ntC hc3'.nt ntN))))
          walk_at "w"
          refine compHead (by with_unfolding_all rfl) (by rfl) (by decide) ?_
          walk_at "w"
          refine compList R hrL₉ (by first | walk_at "fit" | omega) (fun I i v s Q _ _ hq => let_name I v s Q hq) (by decide) (by rfl) (fun (j : Nat) (acc : List Value) (B : Heap) (own : List (Addr × Obj)) => own = p₂ :: p :: ow3 LL c1' c2' c3' ∧ TRs B acc (((rows.take j).filter (isAt r₁.el r₁.nm)).map Row.d)) ‹_› ⟨rfl, by simpa using ReadsAll.nil⟩ ?_ ?_
          · intro C j v acc B₃ mc own s p₃ d q hvj hB₃ hx0 hal hd hq hp2 hq2 S₆
            refine hide ?_
            intro Z_ hZ_
            obtain ⟨rfl, hacc⟩ := hx0
            obtain ⟨r₂, hr₂, h3⟩ := datIs hrv₉ hvj
            obtain ⟨rb, w1, w2, w3, w4, w5, ev_, hrt2, _⟩ := (h3.keeps hB₃).row
            refine hZ_ ?_
            clear hZ_ Z_ hvj
            subst ev_
            have et : ((rows.take (j + 1)).filter (isAt r₁.el r₁.nm)) = ((rows.take j).filter (isAt r₁.el r₁.nm)) ++ (if (isAt r₁.el r₁.nm r₂) = true then [r₂] else []) := by
              rw [List.take_add_one, hr₂, List.filter_append, Option.toList_some, List.filter_cons, List.filter_nil]
            refine assName S₆ ?_
            intro s₇ S₇
            refine tests1 ?_
            walk_at "w"
            refine tslice2 (by assumption) (IsTup.keeps hrt2 (St.keep ‹_›)) rfl rfl ?_ (fun x => by with_unfolding_all rfl)
            intro _ _ _
            walk_at "w"
            have S₈ := (‹St _ _ _ _ _ _›)
            refine eqData R (TR.mk ⟨_, (S₈.at (.tail .head)).1, rfl, _, rfl⟩ (.mk (Reads.str _ _) (.mk (Reads.str _ _) ReadsAll.nil))) (TR.mk ⟨_, (S₈.at .head).1, rfl, _, rfl⟩ (.mk (Reads.str _ _) (.mk (Reads.str _ _) ReadsAll.nil))) (pairOk (hrok r₂ (List.mem_of_getElem? hr₂))) (pairOk hro) pairDepth2 ?_
            rw [eqv_pair]
            have S₉ := S₈.drop.drop
            clear S₈
            walk_at "w"
            refine split_bool ?_ ?_ <;> intro hc2
            · rw [show isAt r₁.el r₁.nm r₂ = true from hc2, if_pos rfl] at et
              walk_at "w"
              refine CompEnd.mk ‹_› hB₃ ⟨rfl, ?_⟩
              rw [et, List.map_append]
              exact hacc.snoc (h3.keeps hB₃)
            · rw [show isAt r₁.el r₁.nm r₂ = false from hc2] at et
              refine CompEnd.mk ‹_› hB₃ ⟨rfl, ?_⟩
              rw [et]; simpa using hacc
          · intro acc B₁₀ own s hx0 hB₁₀ hx1 hal hd S₆
            refine hide ?_
            intro Z_ hZ_
            obtain ⟨fda, fdo⟩ := hx0
            obtain ⟨rfl, hacc⟩ := hx1
            refine hZ_ ?_
            clear hZ_ Z_
            rw [hrn, List.take_length] at hacc
            replace hd : LX acc fdo := hd
            have hfh := find_head rows r₁.el r₁.nm
            have hmem : r₁ ∈ rows.filter (isAt r₁.el r₁.nm) := List.mem_filter.mpr ⟨List.mem_of_getElem? hr₁, by simp [isAt]⟩
            obtain ⟨f₁, fl, hfl⟩ : E2 fun f₁ fl => rows.filter (isAt r₁.el r₁.nm) = f₁ :: fl := by
              cases h : rows.filter (isAt r₁.el r₁.nm) with
              | nil => rw [h] at hmem; cases hmem
              | cons a b => exact ⟨a, b, rfl⟩
            have hfo : RowOk f₁ := hrok f₁ (List.mem_filter.mp (by rw [hfl]; simp)).1
            rw [hfl] at hacc hfh
            refine hide ?_
            intro Z_ hZ_
            obtain ⟨fv, fvs, rfl, hfv, _⟩ := TRs.cons hacc
            refine hZ_ ?_
            clear hZ_ Z_
            have hlo := hd.lo
            have hok₁₀ := hok₉.keeps hB₁₀
            have hG := hG.ext hB₁₀
            clear g1 g2 ga1 ga2 ga3 ga4
            refine hide ?_
            intro Z_ hZ_
            obtain ⟨aA₃, T₃, ⟨dx₃, es₃, n₃, g1, g2, ga1, ga2, ga3, ga4⟩, _, _⟩ := id hok₁₀
            obtain ⟨fa₁, f1, f2, f3, f4, fu, rfl, hft, hfu⟩ := hfv.row
            refine hZ_ ?_
            clear hZ_ Z_
            walk_at "w"
            have S₇ := (‹St _ _ _ _ _ _›).drop
            refine dtdRule_ok (k := 30) (R.le (by decide)) (hG.ext S₇.keep) S₇.keep hok₁₀ ?_
            intro s₉ v D hv
            rcases hv with ⟨e0, _⟩ | ⟨ra', rr, rfl, e0, hra⟩
            · rw [hfh] at e0; cases e0
            rw [hfh] at e0
            cases e0
            obtain ⟨dx₄, es₄, n₄, u1, u3, vv, ch, q1, q2, q3, q4, q5, q6, q7, q8, q9⟩ := id hra
            have S₈ := S₇.call0 D
            clear S₇ D
            walk_at "w"
            refine row_ok (k := 30) (R.le (by decide)) (hG.ext S₈.keep) (hra.keeps S₈.keep) ?_
            intro s₁₂ rv D2 hrv2
            have S₁₁ := S₈.call0 D2
            obtain ⟨B₁₁, hB₁₁, S₁₂, ht₁₁, _⟩ := S₁₁.settle (List.Sublist.refl _) nt₂
            replace hrv2 := hrv2.move ht₁₁
            replace hft := IsTup.keeps hft hB₁₁
            replace hfu := hfu.keeps hB₁₁
            have hBE := (hB₉.trans hB₁₀).trans hB₁₁
            clear S₁₁ S₈ D2 ht₁₁ q1 q2 q3 q4 q5 q6 q7 q8 q9 hra g1 g2 ga1 ga2 ga3 ga4 hG hrt hrL₉ hrv₉ hok₉ hok₁₀
            walk_at "w"
            have S₁₃ := (‹St _ _ _ _ _ _›)
            refine neData R (hrv2.keeps S₁₃.keep) (TR.mk ⟨_, (S₁₃.at .head).1, rfl, _, rfl⟩ (.mk (Reads.str _ _) (.mk (TR.mk ⟨_, (S₁₃.at (.tail .head)).1, rfl, _, rfl⟩ (.mk (Reads.str _ _) (.mk (Reads.str _ _) ReadsAll.nil))) (.mk (Reads.str _ _) (.mk (hfu.keeps S₁₃.keep) ReadsAll.nil))))) (rowD_ok hfo) rowD_depth ?_
            have S₁₄ := S₁₃.drop.drop
            clear S₁₃
            walk_at "w"
            refine TurnEnd.mk (p := p₂) ‹_› hBE ⟨c1', c2', _, _, rfl, hc1', hc2', by walk_at "lk", by walk_at "lk"⟩
        · intro B₉ m own s₂ hB₉ hx0 S₂
          refine hide ?_
          intro Z_ hZ_
          obtain ⟨c1, c2, v1, v2, rfl, hc1, hc2, hm1, hm2⟩ := hx0
          refine hZ_ ?_
          clear hZ_ Z_
          have hG := hG.ext hB₉
          have hok₉ := hok.keeps hB₉
          have nto : ∀ q ∈ p :: ow3 LL c1 c2 c3', NT q.2 := ntC hnp (ntC hc1.nt (ntC hc2.nt (ntC hc3'.nt ntN)))
          obtain ⟨aA₂, T₂, ⟨dx₂, es₂, n₂, g1, g2, ga1, ga2, ga3, ga4⟩, _, _⟩ := id hok₉
          walk_at "w"
          have S₇ := (‹St _ _ _ _ _ _›)
          refine dtdRule_ok (k := 30) (R.le (by decide)) (hG.ext S₇.keep) S₇.keep hok₉ ?_
          intro s₉ v D hv
          rcases hv with ⟨_, rfl⟩ | ⟨ra', rr, rfl, e0, hra⟩
          case inr => rw [noName hrok (by decide +kernel)] at e0; cases e0
          have S₈ := S₇.call0 D
          clear S₇ D S₂
          walk_at "w"
          refine (if_neg (by decide)).mpr ?_
          walk_at "w"
          have S₉ := (‹St _ _ _ _ _ _›)
          refine dtdRules_ok (k := 30) (R.le (by decide)) (hG.ext S₉.keep) S₉.keep hok₉ ?_
          intro s₁₁ d kvs D hk hd hf
          rw [noEl hrok (by decide +kernel)] at hk
          cases hk
          have S₁₁ := S₉.call0 D
          refine hide ?_
          intro Z_ hZ_
          obtain ⟨B₁₀, hB₁₀, S₁₂, hd₂⟩ := S₉.settleD2 S₁₁ rfl nto hd hf
          refine hZ_ ?_
          clear hZ_ Z_
          replace hG := hG.ext hB₁₀
          clear S₈ S₉ S₁₁ D hd hf g1 g2
          walk_at "w"
          have S₁₃ := (‹St _ _ _ _ _ _›)
          refine neDict0 R (hd₂.keeps S₁₃.keep) (DS.of (S₁₃.at .head).1 (by assumption) isDict0) ?_
          have S₁₄ := S₁₃.drop
          clear S₁₃
          walk_at "w"
          refine TurnEnd.mk (p := p) ‹_› ((hBB.trans hB₉).trans hB₁₀) ⟨c1, c2, c3', _, _, _, rfl, hc1, hc2, hc3', by walk_at "lk"⟩
  · intro B' m' own' s₂ hB hx0 S₂
    refine hide ?_
    intro Z_ hZ_
    obtain ⟨c1, c2, c3, v1, v2, v3, rfl, hc1, hc2, hc3, hm⟩ := hx0
    refine hZ_ ?_
    clear hZ_ Z_
    walk_at "w"
    have S₃ := S₂.rebaseTo hB
    show GoodW _ _ _ _ _ (.ok (.ret (.bool true))) _
    refine goodW_bool (S₃.fr (Nat.le_of_eq hLL)) (S₃.gens.trans hg) (raisesW_false ?_) ?_ S₃.os
    · wrow_none_raised
    · wrow_post)
end
end Mine
theorem PySem.Challenge.cw_nu0044_01_holds : PySem.Challenge.rw_nu0044_01.Holds :=
  Mine.law_main
